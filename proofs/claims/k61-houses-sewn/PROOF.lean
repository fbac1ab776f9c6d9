import PyProof.Rows.All
import Wide.All
import OpenK.AllK
import Wide.FinOn
import HandS.ForMost
import HandS.TupAny
import HandS.StrMore
import HandS.IsInst
import HandS.ExcInit
import HandS.TryOnly
import HandS.ExcIs
import HandS.WordsExc
import HandS.WordsDict
import HandS.Style
import HandS.ExcOwn
import HandS.More
import HandS.ExcField
import KE.KExcIs
import HandS.Defaults
import HandS.HeadHook4
import HandS.HeadWalk
import HandS.HeadEnd
import HandS.Codes
import HandS.Head0
import HandS.Head1
import HandS.Head2
import PyProof.StrLawsIn
import PyProof.EqLayable
import PySem.Challenge.RW_talkchart_k61_houses_sewn
/- Core -/
set_option Elab.async false
set_option linter.all false
set_option maxRecDepth 100000
/-! Tk.Core: a small language, its data (trees), its evaluator. -/
namespace Tk
open PySem PyProof.Rows

inductive D where
  | non | bl (b : Bool) | int (i : Int) | str (s : List Nat)
  | tup (xs : List D) | lst (xs : List D) | dct (kvs : List (D × D))
  | obj (i : Nat)
  | scr (xs : List D)
deriving Inhabited

/-- what a name, a field holds: data that never change, or a list, a dict that it alone owns -/
inductive M where
  | val (d : D) | lst (ms : List M) | dct (kvs : List (D × M))
deriving Inhabited

mutual
def M.fz : M → D
  | .val d => d
  | .lst ms => .lst (M.fzs ms)
  | .dct kvs => .dct (M.fzk kvs)
def M.fzs : List M → List D
  | [] => []
  | m :: ms => m.fz :: M.fzs ms
def M.fzk : List (D × M) → List (D × D)
  | [] => []
  | (k, m) :: r => (k, m.fz) :: M.fzk r
end
theorem M.fzs_eq (ms : List M) : M.fzs ms = ms.map M.fz := by
  induction ms with
  | nil => rfl
  | cons m ms ih => simp [M.fzs, ih]
theorem M.fzk_eq (ms : List (D × M)) : M.fzk ms = ms.map fun p => (p.1, p.2.fz) := by
  induction ms with
  | nil => rfl
  | cons m ms ih => obtain ⟨k, m⟩ := m; simp [M.fzk, ih]

/-! ### the language -/
inductive Op where
  | add | sub | mul | fdiv | mod
  | eq | ne | lt | le | gt | ge | isin | notin | is_ | isnot
  | idx | slcLH | slcL | slcH
  | neg | len | abs | int_ | tuple_ | list_ | sorted_ | index_ | find_ | join_ | split_
  | isi (ts : List (Sum String Nat))
deriving DecidableEq

mutual
inductive CE where
  | cst (d : D)
  | var (i : Nat) | frz (i : Nat) | mov (i : Nat)
  | glo (g : Nat)
  | fld (e : CE) (f : Nat)
  | pk (i : Nat) | pkf (e : CE) (f : Nat) | pki (e k : CE)
  | fz (e : CE)
  | tup (es : CEs) | lst (es : CEs) | dnew
  | op (o : Op) (es : CEs)
  | chn (o1 o2 : Op) (a b c : CE)
  | and (es : CEs) | or (es : CEs) | not (e : CE) | ite (c a b : CE)
  | rng (es : CEs)
  | call (f : Nat) (es : CEs) | meth (m : Nat) (o : CE) (es : CEs) | make (C : Nat) (es : CEs)
  | comp (own : List Nat) (tg : List Nat) (one : Bool) (it : CE) (cds : CEs) (elt : CE)
inductive CEs where
  | nil | cons (e : CE) (es : CEs)
end

/-- what stands in an except suite: e.f, isinstance(e, C) -/
inductive XE where
  | cst (d : D) | exf (f : Nat) | exi (c : Nat) | not (a : XE) | and (a b : XE)
  | tup1 (a : XE) | tup2 (a b : XE) | tup3 (a b c : XE)
inductive XS where
  | ret (e : XE) | ifr (c e : XE) (r : XS) | pass
mutual
inductive CS where
  | asg (i : Nat) (e : CE) | asgt (is : List Nat) (e : CE) | aug (i : Nat) (o : Op) (e : CE)
  | setf (o : CE) (f : Nat) (e : CE) | seti (i : Nat) (k e : CE) | setfi (o : CE) (f : Nat) (k e : CE)
  | app (i : Nat) (e : CE)
  | exp (e : CE) | ret (e : CE) | retn
  | ite (c : CE) (a b : CSs) | whl (c : CE) (b : CSs)
  | for (tg : List Nat) (one : Bool) (it : CE) (b : CSs)
  | rais (c : Nat) (es : CEs)
  | try_ (b : CSs) (c : Nat) (i : Option Nat) (suite : XS)
  | pass | brk | cnt
inductive CSs where
  | nil | cons (s : CS) (ss : CSs)
end

/-! ### the program -/
structure Fn where
  np : Nat
  ns : Nat
  body : CSs
structure Cl where
  init : Nat
  ms : List (Nat × Nat)
  fl : List Nat
structure Prog where
  fn : Nat → Option Fn
  cl : Nat → Option Cl
  gl : Nat → Option D
  sup : Nat → Nat → Bool
  iso : Nat → Nat → Bool
  xf : Nat → List Nat

/-! ### states and results -/
structure Ob where
  cls : Nat
  fs : List (Nat × M)
structure Sg where
  sl : List (Option M)
  ob : List Ob
inductive R (α : Type) where
  | ok (a : α) (S : Sg) | exc (c : Nat) (fs : List D) (S : Sg) | bad
def R.bind {α β : Type} : R α → (α → Sg → R β) → R β
  | .ok a S, f => f a S
  | .exc c fs S, _ => .exc c fs S
  | .bad, _ => .bad
/-- no exception leaves -/
def R.nox {α : Type} : R α → R α
  | .ok a S => .ok a S
  | .exc _ _ _ => .bad
  | .bad => .bad
def opt {α : Type} (o : Option α) (S : Sg) : R α := match o with
  | some a => .ok a S
  | none => .bad
inductive Rc where
  | ok (m : M) (ob : List Ob) | exc (c : Nat) (fs : List D) (ob : List Ob) | bad
abbrev CallFn := Nat → List D → List Ob → Rc
def Rc.r : Rc → List (Option M) → R M
  | .ok m ob, sl => .ok m ⟨sl, ob⟩
  | .exc c fs ob, sl => .exc c fs ⟨sl, ob⟩
  | .bad, _ => .bad
inductive Fl where
  | nx | brk | cnt | ret (m : M)
abbrev RS := R Fl

/-! ### operations on data -/
def D.toV? : D → Option (Unit) := fun _ => none
mutual
def D.py : D → Option PyData
  | .non => some .none
  | .bl b => some (.bool b)
  | .int i => some (.int i)
  | .str s => some (.str ⟨s.toArray⟩)
  | .tup xs => (D.pys xs).map .tuple
  | .lst xs => (D.pys xs).map .list
  | .dct _ => none
  | .obj _ => none
  | .scr _ => none
def D.pys : List D → Option (List PyData)
  | [] => some []
  | x :: xs => match x.py, D.pys xs with
    | some a, some b => some (a :: b)
    | _, _ => none
end
def eqD : D → D → Option Bool
  | .non, .non => some true
  | .int i, .int j => some (i == j)
  | .bl i, .bl j => some (i == j)
  | .str i, .str j => some (i == j)
  | .non, .int _ | .int _, .non | .non, .bl _ | .bl _, .non | .non, .str _ | .str _, .non
  | .int _, .str _ | .str _, .int _ | .bl _, .str _ | .str _, .bl _ => some false
  | d, e => match d.py, e.py with
    | some a, some b => if SeqAt.shaped a && SeqAt.shaped b then some (PyData.eqv a b) else none
    | _, _ => none
/-- none, bools, ints, texts -/
def D.flat : D → Bool
  | .non | .bl _ | .int _ | .str _ => true
  | _ => false
def D.eqF : D → D → Bool
  | .non, .non => true
  | .bl a, .bl b => a == b
  | .bl a, .int j => (if a then 1 else 0) == j
  | .int i, .bl b => i == (if b then 1 else 0)
  | .int i, .int j => i == j
  | .str x, .str y => x == y
  | _, _ => false
/-- keys of dicts: ints, texts -/
def D.isKey : D → Bool
  | .int _ | .str _ => true
  | _ => false
def D.eqK : D → D → Bool
  | .int i, .int j => i == j
  | .str x, .str y => x == y
  | _, _ => false
def getK {α : Type} (k : D) : List (D × α) → Option α
  | [] => none
  | (j, v) :: r => if j.eqK k then some v else getK k r
def putK {α : Type} (k : D) (v : α) : List (D × α) → List (D × α)
  | [] => [(k, v)]
  | (j, w) :: r => if j.eqK k then (j, v) :: r else (j, w) :: putK k v r
def seqIx (n : Nat) (i : Int) : Option Nat := if 0 ≤ i then (if i < n then some i.toNat else none) else if -(n : Int) ≤ i then some (i + n).toNat else none
def cutIx (n d : Nat) : Option Int → Nat
  | none => d
  | some v => if v < 0 then (v + (n : Int)).toNat else min v.toNat n
def cutL {α : Type} (xs : List α) (lo hi : Option Int) : List α :=
  (xs.drop (cutIx xs.length 0 lo)).take (cutIx xs.length xs.length hi - cutIx xs.length 0 lo)
def line : Nat := 16777216
def ltS (x y : List Nat) : Bool := decide (x < y)
def insS (x : List Nat) : List (List Nat) → List (List Nat)
  | [] => [x]
  | y :: ys => if ltS y x then y :: insS x ys else x :: y :: ys
def sortS : List (List Nat) → List (List Nat)
  | [] => []
  | x :: xs => insS x (sortS xs)
def mkS (l : List Nat) : Str := ⟨l.toArray⟩
def unS (x : Str) : List Nat := x.cps.toList
def D.asStr : D → Option (List Nat)
  | .str s => some s
  | _ => none
def allStr : List D → Option (List (List Nat))
  | [] => some []
  | .str s :: r => (allStr r).map (s :: ·)
  | _ => none
/-- the items of what is walked, seen as data -/
def M.items : M → Option (List D)
  | .val (.tup xs) => some xs
  | .val (.lst xs) => some xs
  | .val (.scr xs) => some xs
  | .val (.str s) => some (s.map fun c => .str [c])
  | .lst ms => some (M.fzs ms)
  | _ => none
def M.seq : M → Option (List D)
  | .val (.tup xs) => some xs
  | .val (.lst xs) => some xs
  | .val (.scr xs) => some xs
  | .lst ms => some (M.fzs ms)
  | _ => none
def allVal : List M → Option (List D)
  | [] => some []
  | .val d :: r => (allVal r).map (d :: ·)
  | _ => none
/-- the items, all of them data that never change -/
def M.dseq : M → Option (List D)
  | .val (.tup xs) => some xs
  | .val (.lst xs) => some xs
  | .val (.scr xs) => some xs
  | .lst ms => allVal ms
  | _ => none
def M.lseq : M → Option (List D)
  | .val (.lst xs) => some xs
  | .lst ms => allVal ms
  | _ => none
def M.at_ : M → D → Option M
  | .val (.tup xs), .int i => ((seqIx xs.length i).bind fun j => xs[j]?).map .val
  | .val (.lst xs), .int i => ((seqIx xs.length i).bind fun j => xs[j]?).map .val
  | .val (.scr xs), .int i => ((seqIx xs.length i).bind fun j => xs[j]?).map .val
  | .val (.str s), .int i => if s.length ≤ line then ((seqIx s.length i).bind fun j => s[j]?).map fun c => .val (.str [c]) else none
  | .lst ms, .int i => (seqIx ms.length i).bind fun j => ms[j]?
  | .dct kvs, k => if k.isKey then getK k kvs else none
  | .val (.dct kvs), k => if k.isKey then (getK k kvs).map .val else none
  | _, _ => none
def M.only : M → Option M
  | .val d => some (.val d)
  | _ => none
def M.slc (m : M) (lo hi : Option Int) : Option M := match m with
  | .val (.tup xs) => some (.val (.tup (cutL xs lo hi)))
  | .val (.lst xs) => some (.lst ((cutL xs lo hi).map .val))
  | .lst ms => (allVal ms).map fun xs => .lst ((cutL xs lo hi).map .val)
  | .val (.str s) => if s.length ≤ line then some (.val (.str (cutL s lo hi))) else none
  | _ => none
def tyName (P : Prog) (ob : List Ob) : M → Option (Sum String Nat)
  | .val .non => some (.inl "NoneType")
  | .val (.bl _) => some (.inl "bool")
  | .val (.int _) => some (.inl "int")
  | .val (.str _) => some (.inl "str")
  | .val (.tup _) => some (.inl "tuple")
  | .val (.lst _) => some (.inl "list")
  | .val (.dct _) => some (.inl "dict")
  | .val (.obj i) => (ob[i]?).bind fun o => if (P.cl o.cls).isSome then some (.inr o.cls) else none
  | .val (.scr _) => some (.inl "list")
  | .lst _ => some (.inl "list")
  | .dct _ => some (.inl "dict")
def isTy (P : Prog) (t : Sum String Nat) : Sum String Nat → Bool
  | .inl s => match t with
    | .inl u => s == u || (u == "bool" && s == "int")
    | .inr _ => false
  | .inr c => match t with
    | .inl _ => false
    | .inr b => P.iso b c
/-- the lengths with the separators -/
def joinOk (sep : List Nat) (ss : List (List Nat)) : Bool := decide ((ss.map List.length).sum + ss.length * sep.length ≤ line)
def vb (b : Bool) : Option M := some (.val (.bl b))
def smul (i j : Int) : Bool := decide (-18446744073709551616 < i ∧ i < 18446744073709551616) || decide (-18446744073709551616 < j ∧ j < 18446744073709551616)
def doIn (a b : M) : Option Bool := match a.fz, b with
  | .str x, .val (.str y) => some (Txt.contains (mkS y) (mkS x))
  | k, .dct kvs => if k.isKey then some ((getK k kvs).isSome) else none
  | k, .val (.dct kvs) => if k.isKey then some ((getK k kvs).isSome) else none
  | d, m => match m.seq with
    | some xs => if d.flat && xs.all D.flat then some (xs.any fun y => y.eqF d) else none
    | none => none
def M.isNon : M → Bool
  | .val .non => true
  | _ => false
def M.isBl (c : Bool) : M → Bool
  | .val (.bl d) => d == c
  | _ => false
def doIs (a b : M) : Option Bool := match b with
  | .val .non => some a.isNon
  | .val (.bl c) => some (a.isBl c)
  | _ => none
def doLt (a b : D) : Option Bool := match a, b with
  | .int i, .int j => some (decide (i < j))
  | .str x, .str y => some (ltS x y)
  | _, _ => none
def M.asInt : M → Option Int
  | .val (.int i) => some i
  | _ => none
def M.asStr : M → Option (List Nat)
  | .val (.str s) => some s
  | _ => none
def d1 (f : M → Option M) : List M → Option M
  | [a] => f a
  | _ => none
def d2 (f : M → M → Option M) : List M → Option M
  | [a, b] => f a b
  | _ => none
def d3 (f : M → M → M → Option M) : List M → Option M
  | [a, b, c] => f a b c
  | _ => none
def i2 (f : Int → Int → Option M) (a b : M) : Option M := match a.asInt, b.asInt with
  | some i, some j => f i j
  | _, _ => none
def vi (i : Int) : Option M := some (.val (.int i))
def doAdd (a b : M) : Option M := match a.asInt, b.asInt with
  | some i, some j => vi (i + j)
  | _, _ => match a.asStr, b.asStr with
    | some x, some y => if x.length + y.length ≤ line then some (.val (.str (x ++ y))) else none
    | _, _ => match a, b with
      | .val (.tup x), .val (.tup y) => if x.length + y.length ≤ line then some (.val (.tup (x ++ y))) else none
      | a, b => match a.lseq, b.lseq with
        | some x, some y => if x.length + y.length ≤ line then some (.lst ((x ++ y).map .val)) else none
        | _, _ => none
def doLen (m : M) : Option M := match m.asStr with
  | some s => if s.length ≤ line then vi s.length else none
  | none => match m.seq with
    | some xs => vi xs.length
    | none => none
def doInt (m : M) : Option M := match m with
  | .val (.int i) => vi i
  | .val (.bl b) => vi (if b then 1 else 0)
  | _ => none
def doSorted (m : M) : Option M := match m with
  | .dct kvs => (allStr (kvs.map (·.1))).bind fun ks => if ks.length < 64 then some (.lst ((sortS ks).map fun s => .val (.str s))) else none
  | _ => none
def M.liq : M → Option (List D)
  | .val (.lst xs) => some xs
  | .val (.scr xs) => some xs
  | .lst ms => some (M.fzs ms)
  | _ => none
def doIndex (a b : M) : Option M := match a.liq with
  | some xs => if b.fz.flat && xs.all D.flat then (xs.findIdx? fun y => y.eqF b.fz).bind fun i => vi i else none
  | none => none
def doFind (a b c : M) : Option M := match a.asStr, b.asStr, c.asInt with
  | some x, some y, some i => vi (Txt.find3 (mkS x) (mkS y) i)
  | _, _, _ => none
def doJoin (a m : M) : Option M := match a.asStr, m.seq with
  | some sep, some xs => (allStr xs).bind fun ss => if joinOk sep ss then some (.val (.str (unS (Txt.join (mkS sep) (ss.map mkS))))) else none
  | _, _ => none
def doSplit (a b : M) : Option M := match a.asStr, b.asStr with
  | some x, some sep => if sep.isEmpty = false ∧ x.length + 2 ≤ line then some (.lst ((Txt.split (mkS x) (mkS sep)).map fun s => .val (.str (unS s)))) else none
  | _, _ => none
def doOp (P : Prog) (ob : List Ob) : Op → List M → Option M
  | .add => d2 doAdd
  | .sub => d2 (i2 fun i j => vi (i - j))
  | .mul => d2 (i2 fun i j => if smul i j then vi (i * j) else none)
  | .fdiv => d2 (i2 fun i j => if 0 < j ∧ j < 1073741824 then vi (i / j) else none)
  | .mod => d2 (i2 fun i j => if 0 < j then vi (i % j) else none)
  | .eq => d2 fun a b => (eqD a.fz b.fz).bind vb
  | .ne => d2 fun a b => (eqD a.fz b.fz).bind fun c => vb (!c)
  | .lt => d2 fun a b => (doLt a.fz b.fz).bind vb
  | .gt => d2 fun a b => (doLt b.fz a.fz).bind vb
  | .le => d2 fun a b => (doLt b.fz a.fz).bind fun c => vb (!c)
  | .ge => d2 fun a b => (doLt a.fz b.fz).bind fun c => vb (!c)
  | .isin => d2 fun a b => (doIn a b).bind vb
  | .notin => d2 fun a b => (doIn a b).bind fun c => vb (!c)
  | .is_ => d2 fun a b => (doIs a b).bind vb
  | .isnot => d2 fun a b => (doIs a b).bind fun c => vb (!c)
  | .idx => d2 fun a b => (a.at_ b.fz).bind M.only
  | .slcLH => d3 fun a lo hi => (lo.asInt).bind fun lo => (hi.asInt).bind fun hi => a.slc (some lo) (some hi)
  | .slcL => d2 fun a lo => (lo.asInt).bind fun lo => a.slc (some lo) none
  | .slcH => d2 fun a hi => (hi.asInt).bind fun hi => a.slc none (some hi)
  | .neg => d1 fun a => (a.asInt).bind fun i => vi (-i)
  | .len => d1 doLen
  | .abs => d1 fun a => (a.asInt).bind fun i => vi (if i < 0 then -i else i)
  | .int_ => d1 doInt
  | .tuple_ => d1 fun m => (m.dseq).map fun xs => .val (.tup xs)
  | .list_ => d1 fun m => (m.dseq).map fun xs => .lst (xs.map .val)
  | .sorted_ => d1 doSorted
  | .index_ => d2 doIndex
  | .find_ => d3 doFind
  | .join_ => d2 doJoin
  | .split_ => d2 doSplit
  | .isi ts => d1 fun m => (tyName P ob m).bind fun t => vb (ts.any (isTy P t))
def doAug (o : Op) (a b : M) : Option M := match o with
  | .add => i2 (fun i j => vi (i + j)) a b
  | .sub => i2 (fun i j => vi (i - j)) a b
  | _ => none
def rangeL : List M → Option (List D)
  | [.val (.int n)] => if -4611686018427387904 ≤ n ∧ n < 4611686018427387904 then some ((List.range n.toNat).map fun k : Nat => D.int (k : Int)) else none
  | [.val (.int a), .val (.int b)] => if -4611686018427387904 ≤ a ∧ a < 4611686018427387904 ∧ -4611686018427387904 ≤ b ∧ b < 4611686018427387904 then some ((List.range (b - a).toNat).map fun k : Nat => D.int (a + (k : Int))) else none
  | _ => none
def setSl (sl : List (Option M)) (i : Nat) (m : M) : List (Option M) := sl.set i (some m)
def wipeSl (sl : List (Option M)) : List Nat → List (Option M)
  | [] => sl
  | i :: is => (wipeSl sl is).set i none
def bindL (sl : List (Option M)) : List Nat → List D → List (Option M)
  | i :: is, x :: xs => bindL (setSl sl i (.val x)) is xs
  | _, _ => sl
/-- a target: one name, or a tuple of names -/
def bindT (sl : List (Option M)) (tg : List Nat) (one : Bool) (m : M) : Option (List (Option M)) :=
  if one then (match tg with | [i] => some (setSl sl i m) | _ => none)
  else (match m with
    | .val (.tup xs) => if xs.length = tg.length then some (bindL sl tg xs) else none
    | _ => none)
def getF (f : Nat) : List (Nat × M) → Option M
  | [] => none
  | (g, m) :: r => if g = f then some m else getF f r
def putF (f : Nat) (m : M) : List (Nat × M) → List (Nat × M)
  | [] => [(f, m)]
  | (g, x) :: r => if g = f then (g, m) :: r else (g, x) :: putF f m r
def fieldOf (ob : List Ob) (d : M) (f : Nat) : Option M := match d with
  | .val (.obj i) => (ob[i]?).bind fun o => getF f o.fs
  | _ => none
def setField (P : Prog) (ob : List Ob) (d : M) (f : Nat) (m : M) : Option (List Ob) := match d with
  | .val (.obj i) => (ob[i]?).bind fun o => (P.cl o.cls).bind fun c => if c.fl.elem f && decide (o.fs.length < 1000) then some (ob.set i ⟨o.cls, putF f m o.fs⟩) else none
  | _ => none
def methOf (P : Prog) (ob : List Ob) (d : M) (m : Nat) : Option Nat := match d with
  | .val (.obj i) => (ob[i]?).bind fun o => (P.cl o.cls).bind fun c => if (getF m o.fs).isSome then none else c.ms.lookup m
  | _ => none

/-! ### the evaluator -/
def cloop (f : D → Sg → R (Option M)) : List D → Sg → R (List M)
  | [], S => .ok [] S
  | d :: ds, S => (f d S).bind fun o S1 => (cloop f ds S1).bind fun ms S2 => .ok (match o with | some m => m :: ms | none => ms) S2
section
variable (P : Prog) (c1 c0 : CallFn)
mutual
def ev : CE → Sg → R M
  | .cst d, S => .ok (.val d) S
  | .var i, S => opt ((S.sl[i]?.join).bind M.only) S
  | .frz i, S => match S.sl[i]?.join with
    | some m => .ok (.val m.fz) ⟨setSl S.sl i (.val m.fz), S.ob⟩
    | none => .bad
  | .mov i, S => match S.sl[i]?.join with
    | some m => .ok m ⟨S.sl.set i none, S.ob⟩
    | none => .bad
  | .glo g, S => opt ((P.gl g).map .val) S
  | .fld e f, S => (ev e S).bind fun m S => opt ((fieldOf S.ob m f).bind M.only) S
  | .pk i, S => opt (S.sl[i]?.join) S
  | .pkf e f, S => (ev e S).bind fun m S => opt (fieldOf S.ob m f) S
  | .pki e k, S => (ev e S).bind fun m S => (ev k S).bind fun d S => opt (m.at_ d.fz) S
  | .fz e, S => (ev e S).bind fun m S => .ok (.val m.fz) S
  | .tup es, S => (evs es S).bind fun ms S => if ms.length ≤ line then .ok (.val (.tup (M.fzs ms))) S else .bad
  | .lst es, S => (evs es S).bind fun ms S => if ms.length ≤ line then .ok (.lst ms) S else .bad
  | .dnew, S => .ok (.dct []) S
  | .op o es, S => (evs es S).bind fun ms S => opt (doOp P S.ob o ms) S
  | .chn o1 o2 a b c, S => (ev a S).bind fun x S => (ev b S).bind fun y S => match doOp P S.ob o1 [x, y] with
    | some (.val (.bl true)) => (ev c S).bind fun z S => opt (doOp P S.ob o2 [y, z]) S
    | some (.val (.bl false)) => .ok (.val (.bl false)) S
    | _ => .bad
  | .and es, S => evAnd es S
  | .or es, S => evOr es S
  | .not e, S => (ev e S).bind fun m S => match m with
    | .val (.bl b) => .ok (.val (.bl (!b))) S
    | _ => .bad
  | .ite c a b, S => (ev c S).bind fun m S => match m with
    | .val (.bl true) => ev a S
    | .val (.bl false) => ev b S
    | _ => .bad
  | .rng es, S => (evs es S).bind fun ms S => opt ((rangeL ms).map fun xs => .val (.lst xs)) S
  | .call f es, S => (evs es S).bind fun ms S => (c1 f (M.fzs ms) S.ob).r S.sl
  | .meth m o es, S => (ev o S).bind fun d S => match methOf P S.ob d m with
    | some f => (evs es S).bind fun ms S => (c1 f (d.fz :: M.fzs ms) S.ob).r S.sl
    | none => .bad
  | .make C es, S => (evs es S).bind fun ms S => match P.cl C with
    | some cl => (match c0 cl.init (.obj S.ob.length :: M.fzs ms) (S.ob ++ [⟨C, []⟩]) with
      | .ok (.val .non) ob => .ok (.val (.obj S.ob.length)) ⟨S.sl, ob⟩
      | .ok _ _ => .bad
      | .exc c fs ob => .exc c fs ⟨S.sl, ob⟩
      | .bad => .bad)
    | none => .bad
  | .comp own tg one it cds elt, S => (ev it S).bind fun m S => match m.items with
    | some xs => ((cloop (fun d S => match bindT S.sl tg one (.val d) with
        | some sl => (evAnd cds ⟨sl, S.ob⟩).bind fun b S => (match b with
          | .val (.bl true) => (ev elt S).bind fun m S => .ok (some m) ⟨wipeSl S.sl own, S.ob⟩
          | .val (.bl false) => .ok none ⟨wipeSl S.sl own, S.ob⟩
          | _ => .bad)
        | none => .bad) xs ⟨wipeSl S.sl own, S.ob⟩).nox).bind fun ms S => if ms.length ≤ line then .ok (.lst ms) S else .bad
    | none => .bad
def evs : CEs → Sg → R (List M)
  | .nil, S => .ok [] S
  | .cons e es, S => (ev e S).bind fun m S => (evs es S).bind fun ms S => .ok (m :: ms) S
def evAnd : CEs → Sg → R M
  | .nil, S => .ok (.val (.bl true)) S
  | .cons e es, S => (ev e S).bind fun m S => match m with
    | .val (.bl true) => evAnd es S
    | .val (.bl false) => .ok (.val (.bl false)) S
    | _ => .bad
def evOr : CEs → Sg → R M
  | .nil, S => .ok (.val (.bl false)) S
  | .cons e es, S => (ev e S).bind fun m S => match m with
    | .val (.bl false) => evOr es S
    | .val (.bl true) => .ok (.val (.bl true)) S
    | _ => .bad
end
def floop (f : D → Sg → RS) : List D → Sg → RS
  | [], S => .ok .nx S
  | d :: ds, S => match f d S with
    | .ok .nx S => floop f ds S
    | .ok .cnt S => floop f ds S
    | .ok .brk S => .ok .nx S
    | .ok (.ret m) S => .ok (.ret m) S
    | .exc c fs S => .exc c fs S
    | .bad => .bad
def wloop (c : Sg → R M) (f : Sg → RS) : Nat → Sg → RS
  | 0, _ => .bad
  | n + 1, S => match c S with
    | .ok (.val (.bl true)) S => (match f S with
      | .ok .nx S => wloop c f n S
      | .ok .cnt S => wloop c f n S
      | .ok .brk S => .ok .nx S
      | .ok (.ret m) S => .ok (.ret m) S
      | .exc c fs S => .exc c fs S
      | .bad => .bad)
    | .ok (.val (.bl false)) S => .ok .nx S
    | .ok _ _ => .bad
    | .exc c fs S => .exc c fs S
    | .bad => .bad
/-- the field f of an exception of the class c -/
def xfield (f : Nat) : List Nat → List D → Option D
  | g :: gs, d :: ds => if g = f then some d else xfield f gs ds
  | _, _ => none
def exE (c : Nat) (fs : List D) : XE → Option D
  | .cst d => some d
  | .exf f => xfield f (P.xf c) fs
  | .exi t => some (.bl (P.sup c t))
  | .not a => match exE c fs a with
    | some (.bl b) => some (.bl (!b))
    | _ => none
  | .and a b => match exE c fs a with
    | some (.bl true) => (match exE c fs b with
      | some (.bl x) => some (.bl x)
      | _ => none)
    | some (.bl false) => some (.bl false)
    | _ => none
  | .tup1 a => match exE c fs a with
    | some x => some (.tup [x])
    | _ => none
  | .tup2 a b => match exE c fs a, exE c fs b with
    | some x, some y => some (.tup [x, y])
    | _, _ => none
  | .tup3 a b d => match exE c fs a, exE c fs b, exE c fs d with
    | some x, some y, some z => some (.tup [x, y, z])
    | _, _, _ => none
def exS (c : Nat) (fs : List D) : XS → Option Fl
  | .pass => some .nx
  | .ret e => match exE P c fs e with
    | some d => some (.ret (.val d))
    | none => none
  | .ifr t e r => match exE P c fs t with
    | some (.bl true) => (match exE P c fs e with
      | some d => some (.ret (.val d))
      | none => none)
    | some (.bl false) => exS c fs r
    | _ => none
def fuel : Nat := 1000000
mutual
def es : CS → Sg → RS
  | .asg i e, S => (ev P c1 c0 e S).bind fun m S => .ok .nx ⟨setSl S.sl i m, S.ob⟩
  | .asgt is e, S => (ev P c1 c0 e S).bind fun m S => match bindT S.sl is false m with
    | some sl => .ok .nx ⟨sl, S.ob⟩
    | none => .bad
  | .aug i o e, S => (ev P c1 c0 (.var i) S).bind fun a S => (ev P c1 c0 e S).bind fun b S => match doAug o a b with
    | some m => .ok .nx ⟨setSl S.sl i m, S.ob⟩
    | none => .bad
  | .setf o f e, S => (ev P c1 c0 e S).bind fun m S => (ev P c1 c0 o S).bind fun d S => match setField P S.ob d f m with
    | some ob => .ok .nx ⟨S.sl, ob⟩
    | none => .bad
  | .seti i k e, S => (ev P c1 c0 e S).bind fun m S => match S.sl[i]?.join with
    | some (.dct _) => (ev P c1 c0 k S).bind fun k S => (match S.sl[i]?.join with
      | some (.dct kvs) => if k.fz.isKey && decide (kvs.length < line) then .ok .nx ⟨setSl S.sl i (.dct (putK k.fz m kvs)), S.ob⟩ else .bad
      | _ => .bad)
    | _ => .bad
  | .setfi o f k e, S => (ev P c1 c0 e S).bind fun m S => (ev P c1 c0 o S).bind fun d S => match fieldOf S.ob d f with
    | some (.dct _) => (ev P c1 c0 k S).bind fun k S => (match fieldOf S.ob d f with
      | some (.dct kvs) => if k.fz.isKey && decide (kvs.length < line) then (match setField P S.ob d f (.dct (putK k.fz m kvs)) with
        | some ob => .ok .nx ⟨S.sl, ob⟩
        | none => .bad) else .bad
      | _ => .bad)
    | _ => .bad
  | .app i e, S => match S.sl[i]?.join with
    | some (.lst _) => (ev P c1 c0 e S).bind fun m S => (match S.sl[i]?.join with
      | some (.lst ms) => if ms.length < line then .ok .nx ⟨setSl S.sl i (.lst (ms ++ [m])), S.ob⟩ else .bad
      | _ => .bad)
    | _ => .bad
  | .exp e, S => (ev P c1 c0 e S).bind fun _ S => .ok .nx S
  | .ret e, S => (ev P c1 c0 e S).bind fun m S => .ok (.ret m) S
  | .retn, S => .ok (.ret (.val .non)) S
  | .ite c a b, S => (ev P c1 c0 c S).bind fun m S => match m with
    | .val (.bl true) => ess a S
    | .val (.bl false) => ess b S
    | _ => .bad
  | .whl c b, S => wloop (ev P c1 c0 c) (ess b) fuel S
  | .for tg one it b, S => (ev P c1 c0 it S).bind fun m S => match m.items with
    | some xs => floop (fun d S => match bindT S.sl tg one (.val d) with
      | some sl => ess b ⟨sl, S.ob⟩
      | none => .bad) xs S
    | none => .bad
  | .rais c as, S => (evs P c1 c0 as S).bind fun ms S => if P.sup c c && decide (ms.length = (P.xf c).length) && decide (ms.length ≤ 1000) then .exc c (M.fzs ms) S else .bad
  | .try_ b c i suite, S => match ess b S with
    | .exc c' fs S => if P.sup c' c = true then
        (match exS P c' fs suite with
        | some f => (match i with
          | some i => if i < S.sl.length then .ok f ⟨S.sl.set i none, S.ob⟩ else .bad
          | none => .ok f S)
        | none => .bad)
      else .exc c' fs S
    | r => r
  | .pass, S => .ok .nx S
  | .brk, S => .ok .brk S
  | .cnt, S => .ok .cnt S
def ess : CSs → Sg → RS
  | .nil, S => .ok .nx S
  | .cons s ss, S => match es s S with
    | .ok .nx S => ess ss S
    | r => r
end
end
/-- a def, by its body; the calls in it one level down, the making of instances two -/
def callN (P : Prog) : Nat → CallFn × CallFn
  | 0 => (fun _ _ _ => .bad, fun _ _ _ => .bad)
  | n + 1 => (fun f args ob => match P.fn f with
    | some F => if args.length = F.np then
        (match ess P (callN P n).1 (callN P n).2 F.body ⟨args.map (fun d => some (.val d)) ++ List.replicate (F.ns - F.np) none, ob⟩ with
        | .ok (.ret m) S => .ok m S.ob
        | .ok .nx S => .ok (.val .non) S.ob
        | .exc c fs S => .exc c fs S.ob
        | _ => .bad)
      else .bad
    | none => .bad, (callN P n).1)
end Tk
/- Rep -/
set_option Elab.async false
set_option linter.all false
set_option maxRecDepth 100000
set_option maxHeartbeats 1000000
/-! Tk.Rep: how data lie in the abstract heap. -/
namespace Tk
open PySem PySem.Spec PyProof.Rows L2

/-- names of attributes, addresses of classes -/
structure Cn where
  nm : Nat → Str
  ca : Nat → Addr
/-- what stands frozen; where the instances stand -/
structure Gh where
  fz : Addr → Prop
  ob : List (Addr × Addr)
def Gh.le (G G' : Gh) : Prop := (∀ a, G.fz a → G'.fz a) ∧ ∃ l, G'.ob = G.ob ++ l
theorem Gh.le_refl (G : Gh) : G.le G := ⟨fun _ h => h, [], by simp⟩
theorem Gh.le_trans {G1 G2 G3 : Gh} (h : G1.le G2) (h' : G2.le G3) : G1.le G3 := by
  obtain ⟨a, l, e⟩ := h
  obtain ⟨b, m, f⟩ := h'
  exact ⟨fun c z => b c (a c z), l ++ m, by rw [f, e, List.append_assoc]⟩

def KL (K : PySem.W.Frag) (a : Addr) (xs : List V) : Prop := ∃ (o : Obj) (its : Array Value) (n : Nat), K.lookup a = some o ∧ o.cls = .type "list" ∧ o.dict = none ∧ o.data = .seq its n ∧ its.size ≤ sizeLine ∧ Vals xs its.toList
def KT (K : PySem.W.Frag) (a : Addr) (xs : List V) : Prop := ∃ (o : Obj) (its : Array Value) (n : Nat), K.lookup a = some o ∧ o.cls = .type "tuple" ∧ o.data = .seq its n ∧ its.size ≤ sizeLine ∧ Vals xs its.toList
def KD (P : Program) (w : World) (K : PySem.W.Frag) (a : Addr) (kvs : List (Key × V)) : Prop := (a == sysModules) = false ∧ kvs.length ≤ sizeLine ∧ (∃ o, K.lookup a = some o ∧ o.cls = .type "dict") ∧ ∃ vs, KV kvs vs ∧ ∀ h : Heap, K.In h → h.DictOf (mixKind P w) a vs
/-- what the written part must say of a class of instances -/
structure ClX (K : PySem.W.Frag) (C : Addr) : Prop where
  cl : Cls K C
  ha : PySem.W.findIn K (.ref C) "__class__" = some (some (.builtin "object.__class__"))
  hn : PySem.W.specialIn K (.builtin "object.__class__") "__get__" = some (some (.builtin "getset_descriptor.__get__"))
  htk : PySem.W.takesIn K (.builtin "object.__class__") = some true
  hm : PySem.W.mroIn K C (.type "object") = some true
def keyD : Key → D
  | .inl i => .int i
  | .inr x => .str (unS x)
theorem mk_un (x : Str) : mkS (unS x) = x := rfl
theorem un_mk (l : List Nat) : unS (mkS l) = l := rfl

section
variable (P : Program) (w : World) (K : PySem.W.Frag) (c : Cn) (G : Gh) (H : Hp)
mutual
inductive RepD : V → D → Prop
  | non : RepD .non .non
  | bl (b : Bool) : RepD (.bl b) (.bl b)
  | int (i : Int) : RepD (.int i) (.int i)
  | str (x : Str) : RepD (.str x) (.str (unS x))
  | tup {a : Addr} {vs : List V} {ds : List D} : (G.fz a ∧ Rd H a (.tup vs)) ∨ KT K a vs → RepDs vs ds → RepD (.ref a) (.tup ds)
  | lst {a : Addr} {vs : List V} {ds : List D} : G.fz a → H a = some (.lst vs) → RepDs vs ds → RepD (.ref a) (.lst ds)
  | scr {a : Addr} {vs : List V} {ds : List D} : (G.fz a ∧ Rd H a (.lst vs)) ∨ KL K a vs → RepDs vs ds → RepD (.ref a) (.scr ds)
  | dct {a : Addr} {kvs : List (Key × V)} {ds : List (D × D)} : (G.fz a ∧ Rd H a (.dK kvs)) ∨ KD P w K a kvs → RepK kvs ds → RepD (.ref a) (.dct ds)
  | obj {i : Nat} {a dx : Addr} : G.ob[i]? = some (a, dx) → RepD (.ref a) (.obj i)
inductive RepDs : List V → List D → Prop
  | nil : RepDs [] []
  | cons {v : V} {d : D} {vs : List V} {ds : List D} : RepD v d → RepDs vs ds → RepDs (v :: vs) (d :: ds)
inductive RepK : List (Key × V) → List (D × D) → Prop
  | nil : RepK [] []
  | cons {k : Key} {v : V} {d : D} {vs : List (Key × V)} {ds : List (D × D)} : RepD v d → RepK vs ds → RepK ((k, v) :: vs) ((keyD k, d) :: ds)
end
mutual
inductive RepM : V → M → List Addr → Prop
  | val {v : V} {d : D} : RepD P w K G H v d → RepM v (.val d) []
  | lst {a : Addr} {vs : List V} {ms : List M} {fp : List Addr} : H a = some (.lst vs) → RepMs vs ms fp → RepM (.ref a) (.lst ms) (a :: fp)
  | dct {a : Addr} {kvs : List (Key × V)} {ms : List (D × M)} {fp : List Addr} : H a = some (.dK kvs) → (kvs.map (·.1)).Nodup → RepMK kvs ms fp → RepM (.ref a) (.dct ms) (a :: fp)
inductive RepMs : List V → List M → List Addr → Prop
  | nil : RepMs [] [] []
  | cons {v : V} {m : M} {f : List Addr} {vs : List V} {ms : List M} {g : List Addr} : RepM v m f → RepMs vs ms g → RepMs (v :: vs) (m :: ms) (f ++ g)
inductive RepMK : List (Key × V) → List (D × M) → List Addr → Prop
  | nil : RepMK [] [] []
  | cons {k : Key} {v : V} {m : M} {f : List Addr} {vs : List (Key × V)} {ms : List (D × M)} {g : List Addr} : RepM v m f → RepMK vs ms g → RepMK ((k, v) :: vs) ((keyD k, m) :: ms) (f ++ g)
end
/-- the fields of an instance of the class at C -/
inductive RepF (C : Addr) : List (Str × V) → List (Nat × M) → List Addr → Prop
  | nil : RepF C [] [] []
  | cons {i : Nat} {v : V} {m : M} {f : List Addr} {vs : List (Str × V)} {ms : List (Nat × M)} {g : List Addr} : NoAttr K C (c.nm i) → RepM P w K G H v m f → RepF C vs ms g → RepF C ((c.nm i, v) :: vs) ((i, m) :: ms) (f ++ g)
inductive RepO : List (Addr × Addr) → List Ob → List Addr → Prop
  | nil : RepO [] [] []
  | cons {a dx : Addr} {fs : List (Str × V)} {o : Ob} {f : List Addr} {r : List (Addr × Addr)} {os : List Ob} {g : List Addr} :
      ClX K (c.ca o.cls) → H a = some (.ins (c.ca o.cls) dx fs) → H dx = some (.own a) → RepF P w K c G H (c.ca o.cls) fs o.fs f → RepO r os g → RepO ((a, dx) :: r) (o :: os) (a :: dx :: (f ++ g))
/-- a list of values and what they are -/
inductive RepL : List (V × M) → List Addr → Prop
  | nil : RepL [] []
  | cons {v : V} {m : M} {f : List Addr} {l : List (V × M)} {g : List Addr} : RepM P w K G H v m f → RepL l g → RepL ((v, m) :: l) (f ++ g)
structure RepA (l : List (V × M)) (ob : List Ob) (fL fO : List Addr) : Prop where
  l : RepL P w K G H l fL
  o : RepO P w K c G H G.ob ob fO
  nd : (fL ++ fO).Nodup
  nf : ∀ a ∈ fL ++ fO, ¬ G.fz a
  fh : ∀ a, G.fz a → H a ≠ none
/-- the values l are the data, the instances stand as ob says; nothing stands twice -/
def Rp (l : List (V × M)) (ob : List Ob) : Prop := ∃ fL fO, RepA P w K c G H l ob fL fO
end

section
variable {P : Program} {w : World} {K : PySem.W.Frag} {c : Cn} {G G' : Gh} {H H' : Hp}
/-! ### what stands stays -/
theorem rd_keep {a : Addr} {o : HO} (e : H' a = H a) (h : Rd H a o) : Rd H' a o := by
  unfold Rd at *
  rw [e]
  exact h
mutual
theorem RepD.mono (hle : G.le G') (hk : ∀ a, G.fz a → H' a = H a) : ∀ {d : D} {v : V}, RepD P w K G H v d → RepD P w K G' H' v d
  | .non, _, h => by cases h; exact .non
  | .bl b, _, h => by cases h; exact .bl b
  | .int i, _, h => by cases h; exact .int i
  | .str s, _, h => by cases h; exact .str _
  | .tup ds, _, h => by
    cases h with
    | tup h1 h2 => exact .tup (h1.imp (fun z => ⟨hle.1 _ z.1, rd_keep (hk _ z.1) z.2⟩) id) (RepDs.mono hle hk h2)
  | .lst ds, _, h => by
    cases h with
    | lst h1 h0 h2 => exact .lst (hle.1 _ h1) (by rw [hk _ h1]; exact h0) (RepDs.mono hle hk h2)
  | .scr ds, _, h => by
    cases h with
    | scr h1 h2 => exact .scr (h1.imp (fun z => ⟨hle.1 _ z.1, rd_keep (hk _ z.1) z.2⟩) id) (RepDs.mono hle hk h2)
  | .dct ds, _, h => by
    cases h with
    | dct h1 h2 => exact .dct (h1.imp (fun z => ⟨hle.1 _ z.1, rd_keep (hk _ z.1) z.2⟩) id) (RepK.mono hle hk h2)
  | .obj i, _, h => by
    cases h with
    | obj h1 =>
      obtain ⟨l, e⟩ := hle.2
      exact .obj (by rw [e]; exact List.getElem?_append_left (List.getElem?_eq_some_iff.mp h1).1 ▸ h1)
theorem RepDs.mono (hle : G.le G') (hk : ∀ a, G.fz a → H' a = H a) : ∀ {ds : List D} {vs : List V}, RepDs P w K G H vs ds → RepDs P w K G' H' vs ds
  | [], _, h => by cases h; exact .nil
  | _ :: _, _, h => by
    cases h with
    | cons a b => exact .cons (RepD.mono hle hk a) (RepDs.mono hle hk b)
theorem RepK.mono (hle : G.le G') (hk : ∀ a, G.fz a → H' a = H a) : ∀ {ds : List (D × D)} {vs : List (Key × V)}, RepK P w K G H vs ds → RepK P w K G' H' vs ds
  | [], _, h => by cases h; exact .nil
  | _ :: _, _, h => by
    cases h with
    | cons a b => exact .cons (RepD.mono hle hk a) (RepK.mono hle hk b)
end
mutual
theorem RepM.mono (hle : G.le G') (hk : ∀ a, G.fz a → H' a = H a) : ∀ {m : M} {v : V} {fp : List Addr}, RepM P w K G H v m fp → (∀ a ∈ fp, H' a = H a) → RepM P w K G' H' v m fp
  | .val d, _, _, h, _ => by
    cases h with
    | val h => exact .val (h.mono hle hk)
  | .lst ms, _, _, h, q => by
    cases h with
    | lst h1 h2 => exact .lst (by rw [q _ List.mem_cons_self]; exact h1) (RepMs.mono hle hk h2 fun a z => q a (List.mem_cons_of_mem _ z))
  | .dct ms, _, _, h, q => by
    cases h with
    | dct h1 h0 h2 => exact .dct (by rw [q _ List.mem_cons_self]; exact h1) h0 (RepMK.mono hle hk h2 fun a z => q a (List.mem_cons_of_mem _ z))
theorem RepMs.mono (hle : G.le G') (hk : ∀ a, G.fz a → H' a = H a) : ∀ {ms : List M} {vs : List V} {fp : List Addr}, RepMs P w K G H vs ms fp → (∀ a ∈ fp, H' a = H a) → RepMs P w K G' H' vs ms fp
  | [], _, _, h, _ => by cases h; exact .nil
  | _ :: _, _, _, h, q => by
    cases h with
    | cons a b => exact .cons (RepM.mono hle hk a fun x z => q x (List.mem_append_left _ z)) (RepMs.mono hle hk b fun x z => q x (List.mem_append_right _ z))
theorem RepMK.mono (hle : G.le G') (hk : ∀ a, G.fz a → H' a = H a) : ∀ {ms : List (D × M)} {vs : List (Key × V)} {fp : List Addr}, RepMK P w K G H vs ms fp → (∀ a ∈ fp, H' a = H a) → RepMK P w K G' H' vs ms fp
  | [], _, _, h, _ => by cases h; exact .nil
  | _ :: _, _, _, h, q => by
    cases h with
    | cons a b => exact .cons (RepM.mono hle hk a fun x z => q x (List.mem_append_left _ z)) (RepMK.mono hle hk b fun x z => q x (List.mem_append_right _ z))
end
theorem RepF.mono (hle : G.le G') (hk : ∀ a, G.fz a → H' a = H a) {C : Addr} {ms : List (Nat × M)} {vs : List (Str × V)} {fp : List Addr} (h : RepF P w K c G H C vs ms fp) (q : ∀ a ∈ fp, H' a = H a) : RepF P w K c G' H' C vs ms fp := by
  induction h with
  | nil => exact .nil
  | cons na a _ ih => exact .cons na (a.mono hle hk fun x z => q x (List.mem_append_left _ z)) (ih fun x z => q x (List.mem_append_right _ z))
theorem RepO.mono (hle : G.le G') (hk : ∀ a, G.fz a → H' a = H a) {r : List (Addr × Addr)} {os : List Ob} {fp : List Addr} (h : RepO P w K c G H r os fp) (q : ∀ a ∈ fp, H' a = H a) : RepO P w K c G' H' r os fp := by
  induction h with
  | nil => exact .nil
  | cons cx a b f _ ih =>
    refine .cons cx (by rw [q _ List.mem_cons_self]; exact a) (by rw [q _ (List.mem_cons_of_mem _ List.mem_cons_self)]; exact b) (f.mono hle hk fun x z => q x ?_) (ih fun x z => q x ?_)
    · exact List.mem_cons_of_mem _ (List.mem_cons_of_mem _ (List.mem_append_left _ z))
    · exact List.mem_cons_of_mem _ (List.mem_cons_of_mem _ (List.mem_append_right _ z))
theorem RepL.mono (hle : G.le G') (hk : ∀ a, G.fz a → H' a = H a) {l : List (V × M)} {fp : List Addr} (h : RepL P w K G H l fp) (q : ∀ a ∈ fp, H' a = H a) : RepL P w K G' H' l fp := by
  induction h with
  | nil => exact .nil
  | cons a _ ih => exact .cons (a.mono hle hk fun x z => q x (List.mem_append_left _ z)) (ih fun x z => q x (List.mem_append_right _ z))
/-! ### what is owned stands -/
mutual
theorem RepM.there : ∀ {m : M} {v : V} {fp : List Addr}, RepM P w K G H v m fp → ∀ a ∈ fp, H a ≠ none
  | .val d, _, _, h, a, q => by cases h; cases q
  | .lst ms, _, _, h, a, q => by
    cases h with
    | lst h1 h2 =>
      rcases List.mem_cons.mp q with rfl | q
      · rw [h1]; intro z; cases z
      · exact RepMs.there h2 a q
  | .dct ms, _, _, h, a, q => by
    cases h with
    | dct h1 h0 h2 =>
      rcases List.mem_cons.mp q with rfl | q
      · rw [h1]; intro z; cases z
      · exact RepMK.there h2 a q
theorem RepMs.there : ∀ {ms : List M} {vs : List V} {fp : List Addr}, RepMs P w K G H vs ms fp → ∀ a ∈ fp, H a ≠ none
  | [], _, _, h, a, q => by cases h; cases q
  | _ :: _, _, _, h, a, q => by
    cases h with
    | cons x y =>
      rcases List.mem_append.mp q with q | q
      · exact RepM.there x a q
      · exact RepMs.there y a q
theorem RepMK.there : ∀ {ms : List (D × M)} {vs : List (Key × V)} {fp : List Addr}, RepMK P w K G H vs ms fp → ∀ a ∈ fp, H a ≠ none
  | [], _, _, h, a, q => by cases h; cases q
  | _ :: _, _, _, h, a, q => by
    cases h with
    | cons x y =>
      rcases List.mem_append.mp q with q | q
      · exact RepM.there x a q
      · exact RepMK.there y a q
end
theorem RepF.there {C : Addr} {ms : List (Nat × M)} {vs : List (Str × V)} {fp : List Addr} (h : RepF P w K c G H C vs ms fp) : ∀ a ∈ fp, H a ≠ none := by
  induction h with
  | nil => intro a q; cases q
  | cons _ x _ ih =>
    intro a q
    rcases List.mem_append.mp q with q | q
    · exact x.there a q
    · exact ih a q
theorem RepO.there {r : List (Addr × Addr)} {os : List Ob} {fp : List Addr} (h : RepO P w K c G H r os fp) : ∀ a ∈ fp, H a ≠ none := by
  induction h with
  | nil => intro a q; cases q
  | cons _ x y f _ ih =>
    intro a q
    rcases List.mem_cons.mp q with rfl | q
    · rw [x]; intro z; cases z
    rcases List.mem_cons.mp q with rfl | q
    · rw [y]; intro z; cases z
    rcases List.mem_append.mp q with q | q
    · exact f.there a q
    · exact ih a q
theorem RepL.there {l : List (V × M)} {fp : List Addr} (h : RepL P w K G H l fp) : ∀ a ∈ fp, H a ≠ none := by
  induction h with
  | nil => intro a q; cases q
  | cons x _ ih =>
    intro a q
    rcases List.mem_append.mp q with q | q
    · exact x.there a q
    · exact ih a q
theorem RepA.there {l : List (V × M)} {ob : List Ob} {fL fO : List Addr} (h : RepA P w K c G H l ob fL fO) : ∀ a ∈ fL ++ fO, H a ≠ none := fun a q => by
  rcases List.mem_append.mp q with q | q
  · exact h.l.there a q
  · exact h.o.there a q
/-- all that is known stays, more may be new -/
theorem RepA.grow {l : List (V × M)} {ob : List Ob} {fL fO : List Addr} (h : RepA P w K c G H l ob fL fO) (s : ∀ a, H a ≠ none → H' a = H a) : RepA P w K c G H' l ob fL fO :=
  ⟨h.l.mono (Gh.le_refl G) (fun a z => s a (h.fh a z)) fun a z => s a (h.there a (List.mem_append_left _ z)),
   h.o.mono (Gh.le_refl G) (fun a z => s a (h.fh a z)) fun a z => s a (h.there a (List.mem_append_right _ z)), h.nd, h.nf, fun a z => by rw [s a (h.fh a z)]; exact h.fh a z⟩
theorem Rp.grow {l : List (V × M)} {ob : List Ob} (h : Rp P w K c G H l ob) (s : ∀ a, H a ≠ none → H' a = H a) : Rp P w K c G H' l ob :=
  let ⟨fL, fO, q⟩ := h
  ⟨fL, fO, q.grow s⟩
theorem upd_grow {p : Addr} {o : HO} (hp : H p = none) : ∀ a, H a ≠ none → upd H p o a = H a := fun a z => upd_ne fun e => z (e ▸ hp)
/-! ### the list of values -/
theorem RepL.perm {l l' : List (V × M)} (p : l.Perm l') : ∀ {f : List Addr}, RepL P w K G H l f → ∃ f', RepL P w K G H l' f' ∧ f.Perm f' := by
  induction p with
  | nil => intro f h; exact ⟨f, h, .refl _⟩
  | cons x _ ih =>
    intro f h
    cases h with
    | cons a b =>
      obtain ⟨g', hg, pg⟩ := ih b
      exact ⟨_, .cons a hg, pg.append_left _⟩
  | swap x y l =>
    intro f h
    cases h with
    | cons a b =>
      cases b with
      | cons a' b' =>
        refine ⟨_, .cons a' (.cons a b'), ?_⟩
        rw [← List.append_assoc, ← List.append_assoc]
        exact List.Perm.append_right _ List.perm_append_comm
  | trans _ _ ih1 ih2 =>
    intro f h
    obtain ⟨g, hg, pg⟩ := ih1 h
    obtain ⟨k, hk, pk⟩ := ih2 hg
    exact ⟨k, hk, pg.trans pk⟩
theorem Rp.perm {l l' : List (V × M)} {ob : List Ob} (h : Rp P w K c G H l ob) (p : l.Perm l') : Rp P w K c G H l' ob := by
  obtain ⟨fL, fO, q⟩ := h
  obtain ⟨f', h', pf⟩ := q.l.perm p
  have pp : (fL ++ fO).Perm (f' ++ fO) := pf.append_right _
  exact ⟨f', fO, h', q.o, pp.nodup_iff.mp q.nd, fun a z => q.nf a (pp.mem_iff.mpr z), q.fh⟩
theorem Rp.tail {x : V × M} {l : List (V × M)} {ob : List Ob} (h : Rp P w K c G H (x :: l) ob) : Rp P w K c G H l ob := by
  obtain ⟨fL, fO, q⟩ := h
  cases q with
  | mk l o nd nf fh =>
    cases l with
    | @cons v m f l g a b =>
      refine ⟨g, fO, b, o, ?_, fun a z => nf a ?_, fh⟩
      · rw [List.append_assoc] at nd
        exact (List.nodup_append.mp nd).2.1
      · rw [List.append_assoc]
        exact List.mem_append_right _ z
/-- a value whose data never change, put in front -/
theorem Rp.val {v : V} {d : D} {l : List (V × M)} {ob : List Ob} (h : Rp P w K c G H l ob) (r : RepD P w K G H v d) : Rp P w K c G H ((v, .val d) :: l) ob := by
  obtain ⟨fL, fO, q⟩ := h
  exact ⟨[] ++ fL, fO, .cons (.val r) q.l, q.o, q.nd, q.nf, q.fh⟩
theorem Rp.head {v : V} {m : M} {l : List (V × M)} {ob : List Ob} (h : Rp P w K c G H ((v, m) :: l) ob) : ∃ f, RepM P w K G H v m f := by
  obtain ⟨fL, fO, q⟩ := h
  cases q.l with
  | cons a _ => exact ⟨_, a⟩
theorem Rp.mem {v : V} {m : M} {l : List (V × M)} {ob : List Ob} (h : Rp P w K c G H l ob) (hm : (v, m) ∈ l) : ∃ f, RepM P w K G H v m f := by
  obtain ⟨l', p⟩ := List.mem_iff_append.mp hm |>.imp fun s ⟨t, e⟩ => (⟨t, e⟩ : ∃ t, l = s ++ (v, m) :: t)
  obtain ⟨t, e⟩ := p
  exact (h.perm (l' := (v, m) :: (l' ++ t)) (e ▸ List.perm_middle)).head
/-! ### to freeze -/
mutual
theorem RepM.freeze {G' : Gh} (hle : G.le G') : ∀ {m : M} {v : V} {fp : List Addr}, RepM P w K G H v m fp → (∀ a ∈ fp, G'.fz a) → RepD P w K G' H v m.fz
  | .val d, _, _, h, _ => by
    cases h with
    | val h => exact h.mono hle fun _ _ => rfl
  | .lst ms, _, _, h, q => by
    cases h with
    | lst h1 h2 => exact .lst (q _ List.mem_cons_self) h1 (RepMs.freeze hle h2 fun a z => q a (List.mem_cons_of_mem _ z))
  | .dct ms, _, _, h, q => by
    cases h with
    | dct h1 h0 h2 => exact .dct (.inl ⟨q _ List.mem_cons_self, .inl h1⟩) (RepMK.freeze hle h2 fun a z => q a (List.mem_cons_of_mem _ z))
theorem RepMs.freeze {G' : Gh} (hle : G.le G') : ∀ {ms : List M} {vs : List V} {fp : List Addr}, RepMs P w K G H vs ms fp → (∀ a ∈ fp, G'.fz a) → RepDs P w K G' H vs (M.fzs ms)
  | [], _, _, h, _ => by cases h; exact .nil
  | m :: ms, _, _, h, q => by
    cases h with
    | cons a b => exact .cons (RepM.freeze hle a fun x z => q x (List.mem_append_left _ z)) (RepMs.freeze hle b fun x z => q x (List.mem_append_right _ z))
theorem RepMK.freeze {G' : Gh} (hle : G.le G') : ∀ {ms : List (D × M)} {vs : List (Key × V)} {fp : List Addr}, RepMK P w K G H vs ms fp → (∀ a ∈ fp, G'.fz a) → RepK P w K G' H vs (M.fzk ms)
  | [], _, _, h, _ => by cases h; exact .nil
  | (k, m) :: ms, _, _, h, q => by
    cases h with
    | cons a b => exact .cons (RepM.freeze hle a fun x z => q x (List.mem_append_left _ z)) (RepMK.freeze hle b fun x z => q x (List.mem_append_right _ z))
end
/-- the value in front is frozen -/
theorem Rp.freeze {v : V} {m : M} {l : List (V × M)} {ob : List Ob} (h : Rp P w K c G H ((v, m) :: l) ob) : ∃ G', G.le G' ∧ Rp P w K c G' H ((v, .val m.fz) :: l) ob := by
  obtain ⟨fL, fO, q⟩ := h
  cases q with
  | mk hl o nd nf fh =>
    cases hl with
    | @cons v m f l g a b =>
      have le : G.le ⟨fun x => G.fz x ∨ x ∈ f, G.ob⟩ := ⟨fun x z => .inl z, [], by simp⟩
      rw [List.append_assoc] at nd nf
      obtain ⟨n1, n2, n3⟩ := List.nodup_append.mp nd
      refine ⟨⟨fun x => G.fz x ∨ x ∈ f, G.ob⟩, le, [] ++ g, fO, .cons (.val (a.freeze le fun x z => .inr z)) (b.mono le (fun _ _ => rfl) fun _ _ => rfl), o.mono le (fun _ _ => rfl) fun _ _ => rfl, n2, fun x z => ?_, fun x z => ?_⟩
      · rintro (z' | z')
        · exact nf x (List.mem_append_right _ z) z'
        · exact n3 x z' x z rfl
      · rcases z with z | z
        · exact fh x z
        · exact a.there x z
end
end Tk
/- Rep2 -/
set_option Elab.async false
set_option linter.all false
set_option maxRecDepth 100000
set_option maxHeartbeats 1000000
namespace Tk
open PySem PySem.Spec PyProof.Rows L2
section
variable {P : Program} {w : World} {K : PySem.W.Frag} {c : Cn} {G G' : Gh} {H H' : Hp}
theorem RepMs.len {vs : List V} {ms : List M} {f : List Addr} (h : RepMs P w K G H vs ms f) : vs.length = ms.length := by
  induction ms generalizing vs f with
  | nil => cases h; rfl
  | cons m ms ih => cases h with | cons a b => simp [ih b]
theorem RepDs.len {vs : List V} {ds : List D} (h : RepDs P w K G H vs ds) : vs.length = ds.length := by
  induction ds generalizing vs with
  | nil => cases h; rfl
  | cons m ms ih => cases h with | cons a b => simp [ih b]
theorem RepL.split : ∀ {vs : List V} {ms : List M} {l : List (V × M)} {f : List Addr}, RepL P w K G H (vs.zip ms ++ l) f → vs.length = ms.length → ∃ g h, f = g ++ h ∧ RepMs P w K G H vs ms g ∧ RepL P w K G H l h
  | [], [], l, f, h, _ => ⟨[], f, rfl, .nil, h⟩
  | [], _ :: _, _, _, _, e => by cases e
  | _ :: _, [], _, _, _, e => by cases e
  | v :: vs, m :: ms, l, f, h, e => by
    cases h with
    | cons a b =>
      obtain ⟨g, k, rfl, x, y⟩ := RepL.split (vs := vs) (ms := ms) b (Nat.succ.inj e)
      exact ⟨_ ++ g, k, by rw [List.append_assoc], .cons a x, y⟩
theorem RepL.join : ∀ {vs : List V} {ms : List M} {l : List (V × M)} {g h : List Addr}, RepMs P w K G H vs ms g → RepL P w K G H l h → RepL P w K G H (vs.zip ms ++ l) (g ++ h)
  | [], [], _, _, _, a, b => by cases a; exact b
  | v :: vs, m :: ms, l, _, _, a, b => by
    cases a with
    | cons x y =>
      rw [List.append_assoc]
      exact .cons x (RepL.join y b)
  | [], _ :: _, _, _, _, a, _ => by cases a
  | _ :: _, [], _, _, _, a, _ => by cases a
/-- all of them frozen -/
theorem Rp.freezes {vs : List V} {ms : List M} {l : List (V × M)} {ob : List Ob} (h : Rp P w K c G H (vs.zip ms ++ l) ob) (e : vs.length = ms.length) : ∃ G', G.le G' ∧ Rp P w K c G' H l ob ∧ RepDs P w K G' H vs (M.fzs ms) := by
  obtain ⟨fL, fO, hl, o, nd, nf, fh⟩ := h
  obtain ⟨f, g, rfl, a, b⟩ := hl.split e
  have le : G.le ⟨fun x => G.fz x ∨ x ∈ f, G.ob⟩ := ⟨fun x z => .inl z, [], by simp⟩
  rw [List.append_assoc] at nd nf
  obtain ⟨n1, n2, n3⟩ := List.nodup_append.mp nd
  refine ⟨⟨fun x => G.fz x ∨ x ∈ f, G.ob⟩, le, ⟨g, fO, b.mono le (fun _ _ => rfl) fun _ _ => rfl, o.mono le (fun _ _ => rfl) fun _ _ => rfl, n2, fun x z => ?_, fun x z => ?_⟩, a.freeze le fun x z => .inr z⟩
  · rintro (z' | z')
    · exact nf x (List.mem_append_right _ z) z'
    · exact n3 x z' x z rfl
  · rcases z with z | z
    · exact fh x z
    · exact a.there x z
theorem RepD.grow (h : ∀ a, H a ≠ none → H' a = H a) (fh : ∀ a, G.fz a → H a ≠ none) {v : V} {d : D} (r : RepD P w K G H v d) : RepD P w K G H' v d := r.mono (Gh.le_refl G) fun a z => h a (fh a z)
theorem Rp.fh {l : List (V × M)} {ob : List Ob} (h : Rp P w K c G H l ob) : ∀ a, G.fz a → H a ≠ none := let ⟨_, _, q⟩ := h; q.fh
/-- one more frozen thing -/
def Gh.more (G : Gh) (p : Addr) : Gh := ⟨fun x => G.fz x ∨ x = p, G.ob⟩
theorem Gh.more_le (G : Gh) (p : Addr) : G.le (G.more p) := ⟨fun _ h => .inl h, [], by simp [Gh.more]⟩
theorem Rp.more {l : List (V × M)} {ob : List Ob} {p : Addr} {o : HO} (h : Rp P w K c G H l ob) (hp : H p = none) : Rp P w K c (G.more p) (upd H p o) l ob := by
  obtain ⟨fL, fO, q⟩ := h
  have q' := q.grow (upd_grow (o := o) hp)
  refine ⟨fL, fO, q'.l.mono (G.more_le p) (fun _ _ => rfl) fun _ _ => rfl, q'.o.mono (G.more_le p) (fun _ _ => rfl) fun _ _ => rfl, q.nd, fun a z => ?_, fun a z => ?_⟩
  · rintro (z' | rfl)
    · exact q.nf a z z'
    · exact q.there _ z hp
  · rcases z with z | rfl
    · exact q'.fh a z
    · rw [upd_same]; intro e; cases e
theorem Rp.new_tup {l : List (V × M)} {ob : List Ob} {p : Addr} {vs : List V} {ds : List D} (h : Rp P w K c G H l ob) (r : RepDs P w K G H vs ds) (hp : H p = none) : Rp P w K c (G.more p) (upd H p (.tup vs)) ((.ref p, .val (.tup ds)) :: l) ob :=
  (h.more hp).val (.tup (.inl ⟨.inr rfl, .inl upd_same⟩) (r.mono (G.more_le p) fun a z => upd_grow hp a (h.fh a z)))
theorem Rp.new_flst {l : List (V × M)} {ob : List Ob} {p : Addr} {vs : List V} {ds : List D} (h : Rp P w K c G H l ob) (r : RepDs P w K G H vs ds) (hp : H p = none) : Rp P w K c (G.more p) (upd H p (.lst vs)) ((.ref p, .val (.lst ds)) :: l) ob :=
  (h.more hp).val (.lst (.inr rfl) upd_same (r.mono (G.more_le p) fun a z => upd_grow hp a (h.fh a z)))
theorem Rp.new_lst {l : List (V × M)} {ob : List Ob} {p : Addr} {vs : List V} {ms : List M} (h : Rp P w K c G H (vs.zip ms ++ l) ob) (e : vs.length = ms.length) (hp : H p = none) : Rp P w K c G (upd H p (.lst vs)) ((.ref p, .lst ms) :: l) ob := by
  obtain ⟨fL, fO, q⟩ := h
  have q' := q.grow (upd_grow (o := .lst vs) hp)
  obtain ⟨f, g, rfl, a, b⟩ := q'.l.split e
  refine ⟨(p :: f) ++ g, fO, .cons (.lst upd_same a) b, q'.o, ?_, ?_, q'.fh⟩
  · show (p :: (f ++ g ++ fO)).Nodup
    exact List.nodup_cons.mpr ⟨fun z => q.there p z hp, q.nd⟩
  · intro x z
    rcases List.mem_cons.mp (show x ∈ p :: (f ++ g ++ fO) from z) with rfl | z
    · exact fun z' => q.fh _ z' hp
    · exact q.nf x z
theorem Rp.new_dct {l : List (V × M)} {ob : List Ob} {p : Addr} (h : Rp P w K c G H l ob) (hp : H p = none) : Rp P w K c G (upd H p (.dK [])) ((.ref p, .dct []) :: l) ob := by
  obtain ⟨fL, fO, q⟩ := h
  have q' := q.grow (upd_grow (o := .dK []) hp)
  refine ⟨(p :: []) ++ fL, fO, .cons (.dct upd_same .nil .nil) q'.l, q'.o, ?_, ?_, q'.fh⟩
  · show (p :: (fL ++ fO)).Nodup
    exact List.nodup_cons.mpr ⟨fun z => q.there p z hp, q.nd⟩
  · intro x z
    rcases List.mem_cons.mp (show x ∈ p :: (fL ++ fO) from z) with rfl | z
    · exact fun z' => q.fh _ z' hp
    · exact q.nf x z
/-- a new instance -/
theorem Rp.new_ob {l : List (V × M)} {ob : List Ob} {x dx : Addr} {C : Nat} (cx : ClX K (c.ca C)) (h : Rp P w K c G H l ob) (hx : H x = none) (hd : H dx = none) (ne : dx ≠ x) :
    Rp P w K c ⟨G.fz, G.ob ++ [(x, dx)]⟩ (upd (upd H dx (.own x)) x (.ins (c.ca C) dx [])) l (ob ++ [⟨C, []⟩]) := by
  obtain ⟨fL, fO, q⟩ := h
  have hx' : upd H dx (.own x) x = none := by rw [upd_ne ne.symm]; exact hx
  have q1 := q.grow (upd_grow (o := .own x) hd)
  have q2 := q1.grow (upd_grow (o := .ins (c.ca C) dx []) hx')
  have le : G.le ⟨G.fz, G.ob ++ [(x, dx)]⟩ := ⟨fun _ z => z, [(x, dx)], rfl⟩
  have app : ∀ {r : List (Addr × Addr)} {os : List Ob} {g : List Addr}, RepO P w K c ⟨G.fz, G.ob ++ [(x, dx)]⟩ (upd (upd H dx (.own x)) x (.ins (c.ca C) dx [])) r os g → RepO P w K c ⟨G.fz, G.ob ++ [(x, dx)]⟩ (upd (upd H dx (.own x)) x (.ins (c.ca C) dx [])) (r ++ [(x, dx)]) (os ++ [⟨C, []⟩]) (g ++ [x, dx]) := by
    intro r os g z
    induction z with
    | nil =>
      have e1 : upd (upd H dx (.own x)) x (.ins (c.ca C) dx []) dx = some (.own x) := by rw [upd_ne ne, upd_same]
      exact RepO.cons (o := ⟨C, []⟩) (fs := []) (f := []) cx upd_same e1 .nil .nil
    | cons c0 a b f _ ih =>
      have := RepO.cons c0 a b f ih
      simpa [List.append_assoc] using this
  refine ⟨fL, fO ++ [x, dx], q2.l.mono le (fun _ _ => rfl) fun _ _ => rfl, app (q2.o.mono le (fun _ _ => rfl) fun _ _ => rfl), ?_, ?_, q2.fh⟩
  · rw [← List.append_assoc]
    refine List.nodup_append.mpr ⟨q.nd, by simp [ne.symm], ?_⟩
    intro a ha b hb e
    subst e
    have := q.there a ha
    simp at hb
    rcases hb with rfl | rfl
    · exact this hx
    · exact this hd
  · intro a ha
    rw [← List.append_assoc] at ha
    rcases List.mem_append.mp ha with z | z
    · exact q.nf a z
    · simp at z
      rcases z with rfl | rfl
      · exact fun z => q.fh _ z hx
      · exact fun z => q.fh _ z hd
/-! ### to change what is owned -/
theorem RepMs.snoc : ∀ {vs : List V} {ms : List M} {f g : List Addr} {v : V} {m : M}, RepMs P w K G H vs ms f → RepM P w K G H v m g → RepMs P w K G H (vs ++ [v]) (ms ++ [m]) (f ++ g)
  | [], [], _, g, v, m, a, b => by
    cases a
    have : RepMs P w K G H [v] [m] (g ++ []) := .cons b .nil
    rwa [List.append_nil] at this
  | [], _ :: _, _, _, _, _, a, _ => by cases a
  | _ :: _, [], _, _, _, _, a, _ => by cases a
  | x :: vs, y :: ms, _, g, v, m, a, b => by
    cases a with
    | cons p q =>
      rw [List.append_assoc]
      exact .cons p (RepMs.snoc q b)
/-- one owned object is changed: what else stands, stands -/
theorem Rp.change {a : Addr} {o : HO} {v : V} {m m' : M} {x : V} {y : M} {l : List (V × M)} {ob : List Ob} {f g f' : List Addr} {fL fO : List Addr}
    (hl : RepL P w K G H l fL) (ho : RepO P w K c G H G.ob ob fO) (nd : ((a :: f) ++ (fL ++ fO)).Nodup) (nf : ∀ z ∈ (a :: f) ++ (fL ++ fO), ¬ G.fz z) (fh : ∀ z, G.fz z → H z ≠ none)
    (r : RepM P w K G (upd H a o) v m' (a :: f)) : Rp P w K c G (upd H a o) ((v, m') :: l) ob := by
  have na : ∀ z, z ∈ fL ++ fO → z ≠ a := fun z hz e => by
    subst e
    exact (List.nodup_cons.mp nd).1 (List.mem_append_right _ hz)
  have nfa : ∀ z, G.fz z → upd H a o z = H z := fun z hz => upd_ne fun e => nf a (List.mem_append_left _ List.mem_cons_self) (e ▸ hz)
  refine ⟨(a :: f) ++ fL, fO, .cons r (hl.mono (Gh.le_refl G) nfa fun z hz => upd_ne (na z (List.mem_append_left _ hz))), ho.mono (Gh.le_refl G) nfa fun z hz => upd_ne (na z (List.mem_append_right _ hz)), ?_, ?_, fun z hz => by rw [nfa z hz]; exact fh z hz⟩
  · rw [List.append_assoc]; exact nd
  · rw [List.append_assoc]; exact nf
theorem Rp.append {a : Addr} {ms : List M} {v : V} {m : M} {vs : List V} {l : List (V × M)} {ob : List Ob} (h : Rp P w K c G H ((.ref a, .lst ms) :: (v, m) :: l) ob) (e : H a = some (.lst vs)) :
    Rp P w K c G (upd H a (.lst (vs ++ [v]))) ((.ref a, .lst (ms ++ [m])) :: l) ob := by
  obtain ⟨fL, fO, hl, ho, nd, nf, fh⟩ := h
  cases hl with
  | cons p q =>
    cases p with
    | @lst a vs' ms f e' hs =>
      rw [e] at e'; cases e'
      cases q with
      | @cons v m g l k r s =>
        rw [show ((a :: f) ++ (g ++ k)) ++ fO = (a :: (f ++ g)) ++ (k ++ fO) by simp [List.append_assoc]] at nd nf
        have na : ∀ z, z ∈ f ++ g → z ≠ a := fun z hz e => by
          subst e
          exact (List.nodup_cons.mp nd).1 (List.mem_append_left _ hz)
        have nfa : ∀ z, G.fz z → upd H a (.lst (vs ++ [v])) z = H z := fun z hz => upd_ne fun e => nf a List.mem_cons_self (e ▸ hz)
        exact Rp.change (f := f ++ g) (g := []) (f' := []) (m := .val .non) (x := .non) (y := .val .non) s ho nd nf fh (.lst upd_same ((hs.mono (Gh.le_refl G) nfa fun z hz => upd_ne (na z (List.mem_append_left _ hz))).snoc (r.mono (Gh.le_refl G) nfa fun z hz => upd_ne (na z (List.mem_append_right _ hz)))))

/-! ### dicts -/
theorem eqK_key (j k : Key) : (keyD j).eqK (keyD k) = decide (j = k) := by
  cases j with
  | inl i => cases k with
    | inl n => rw [key_ll]; rfl
    | inr y => rw [key_lr]; rfl
  | inr x => cases k with
    | inl n => rw [key_rl]; rfl
    | inr y =>
      rw [key_rr]
      show (unS x == unS y) = decide (x = y)
      by_cases e : x = y
      · subst e; simp
      · rw [decide_eq_false e]
        refine beq_eq_false_iff_ne.mpr fun z => e ?_
        have : mkS (unS x) = mkS (unS y) := congrArg mkS z
        exact this
theorem isKey_key {d : D} (h : d.isKey = true) : ∃ k, d = keyD k := by
  cases d with
  | int i => exact ⟨.inl i, rfl⟩
  | str s => exact ⟨.inr (mkS s), rfl⟩
  | _ => cases h
def put1 (kvs : List (Key × V)) (k : Key) (v : V) : List (Key × V) := match kvs with
  | [] => [(k, v)]
  | (j, x) :: r => if j = k then (j, v) :: r else (j, x) :: put1 r k v
theorem map_id_of {kvs : List (Key × V)} {k : Key} {v : V} (h : k ∉ kvs.map (·.1)) : kvs.map (fun kv => if kv.1 = k then (kv.1, v) else kv) = kvs := by
  induction kvs with
  | nil => rfl
  | cons p r ih =>
    rw [List.map_cons, ih fun z => h (List.mem_cons_of_mem _ z), if_neg fun e => h (by rw [← e]; exact List.mem_cons_self)]
theorem putK_put1 : ∀ {kvs : List (Key × V)} {k : Key} {v : V}, (kvs.map (·.1)).Nodup → L2.putK kvs k v = put1 kvs k v
  | [], _, _, _ => rfl
  | (j, x) :: r, k, v, nd => by
    have nd' := List.nodup_cons.mp nd
    have ih := putK_put1 (kvs := r) (k := k) (v := v) nd'.2
    unfold L2.putK put1 at *
    rw [List.any_cons]
    by_cases e : j = k
    · subst e
      rw [if_pos (by simp), if_pos rfl, List.map_cons, if_pos rfl, map_id_of nd'.1]
    · rw [if_neg e]
      rw [decide_eq_false e, Bool.false_or]
      by_cases q : (r.any fun kv => decide (kv.1 = k)) = true
      · rw [if_pos q, List.map_cons, if_neg e]
        rw [if_pos q] at ih
        cases r with
        | nil => cases q
        | cons p r => exact congrArg _ ih
      · rw [if_neg q]
        rw [if_neg q] at ih
        cases r with
        | nil => rfl
        | cons p r => exact congrArg _ ih
theorem RepMK.get {kvs : List (Key × V)} {ms : List (D × M)} {f : List Addr} (h : RepMK P w K G H kvs ms f) (k : Key) :
    match getK (keyD k) ms with
    | some m => ∃ v g, L2.valV kvs k = some v ∧ RepM P w K G H v m g ∧ ∀ a ∈ g, a ∈ f
    | none => L2.valV kvs k = none := by
  induction ms generalizing kvs f with
  | nil => cases h; rfl
  | cons p ms ih =>
    cases h with
    | @cons j v m f vs ms g a b =>
      unfold getK
      rw [eqK_key]
      by_cases e : j = k
      · rw [if_pos (decide_eq_true e)]
        exact ⟨v, f, L2.valV_pos (p := (j, v)) e, a, fun x z => List.mem_append_left _ z⟩
      · rw [if_neg (by simpa using e), L2.valV_neg (p := (j, v)) e]
        have := ih b
        cases q : getK (keyD k) ms with
        | none => rw [q] at this; exact this
        | some m' =>
          rw [q] at this
          obtain ⟨v', g', h1, h2, h3⟩ := this
          exact ⟨v', g', h1, h2, fun x z => List.mem_append_right _ (h3 x z)⟩
theorem RepK.get {kvs : List (Key × V)} {ds : List (D × D)} (h : RepK P w K G H kvs ds) (k : Key) :
    match getK (keyD k) ds with
    | some d => ∃ v, L2.valV kvs k = some v ∧ RepD P w K G H v d
    | none => L2.valV kvs k = none := by
  induction ds generalizing kvs with
  | nil => cases h; rfl
  | cons p ms ih =>
    cases h with
    | @cons j v d vs ds a b =>
      unfold getK
      rw [eqK_key]
      by_cases e : j = k
      · rw [if_pos (decide_eq_true e)]
        exact ⟨v, L2.valV_pos (p := (j, v)) e, a⟩
      · rw [if_neg (by simpa using e), L2.valV_neg (p := (j, v)) e]
        exact ih b
theorem RepMK.keys {kvs : List (Key × V)} {ms : List (D × M)} {f : List Addr} (h : RepMK P w K G H kvs ms f) : ms.map (·.1) = kvs.map fun p => keyD p.1 := by
  induction ms generalizing kvs f with
  | nil => cases h; rfl
  | cons p ms ih => cases h with | cons a b => simp [ih b]
theorem RepMK.len {kvs : List (Key × V)} {ms : List (D × M)} {f : List Addr} (h : RepMK P w K G H kvs ms f) : ms.length = kvs.length := by
  have := congrArg List.length h.keys
  simpa using this
theorem RepMK.put {kvs : List (Key × V)} {ms : List (D × M)} {f g : List Addr} {k : Key} {v : V} {m : M} (h : RepMK P w K G H kvs ms f) (r : RepM P w K G H v m g) :
    ∃ f' old, RepMK P w K G H (put1 kvs k v) (putK (keyD k) m ms) f' ∧ (f ++ g).Perm (f' ++ old) := by
  induction ms generalizing kvs f with
  | nil =>
    cases h
    exact ⟨g ++ [], [], .cons r .nil, by simp⟩
  | cons p ms ih =>
    cases h with
    | @cons j x y f vs ms f2 a b =>
      unfold putK put1
      rw [eqK_key]
      by_cases e : j = k
      · rw [if_pos e, if_pos (decide_eq_true e)]
        refine ⟨g ++ f2, f, .cons r b, ?_⟩
        refine (List.perm_append_comm).trans ?_
        rw [List.append_assoc]
        exact List.Perm.append_left _ List.perm_append_comm
      · rw [if_neg e, if_neg (by simpa using e)]
        obtain ⟨f', old, h1, h2⟩ := ih b
        exact ⟨f ++ f', old, .cons a h1, by rw [List.append_assoc, List.append_assoc]; exact h2.append_left _⟩
open Classical in
theorem put1_keys {kvs : List (Key × V)} {k : Key} {v : V} : (put1 kvs k v).map (·.1) = if k ∈ kvs.map (·.1) then kvs.map (·.1) else kvs.map (·.1) ++ [k] := by
  induction kvs with
  | nil => simp [put1]
  | cons p r ih =>
    obtain ⟨j, x⟩ := p
    unfold put1
    by_cases e : j = k
    · subst e; simp
    · rw [if_neg e, List.map_cons, ih]
      by_cases q : k ∈ r.map (·.1)
      · rw [if_pos q, if_pos (by simp only [List.map_cons]; exact List.mem_cons_of_mem _ q)]; rfl
      · rw [if_neg q, if_neg (by simp only [List.map_cons, List.mem_cons, not_or]; exact ⟨fun z => e z.symm, q⟩)]; rfl
open Classical in
theorem put1_nd {kvs : List (Key × V)} {k : Key} {v : V} (h : (kvs.map (·.1)).Nodup) : ((put1 kvs k v).map (·.1)).Nodup := by
  rw [put1_keys]
  by_cases q : k ∈ kvs.map (·.1)
  · rw [if_pos q]; exact h
  · rw [if_neg q]
    exact List.nodup_append.mpr ⟨h, by simp, fun a ha b hb e => by simp at hb; subst hb; subst e; exact q ha⟩
theorem Rp.put {a : Addr} {ms : List (D × M)} {v : V} {m : M} {kvs : List (Key × V)} {k : Key} {l : List (V × M)} {ob : List Ob} (h : Rp P w K c G H ((.ref a, .dct ms) :: (v, m) :: l) ob) (e : H a = some (.dK kvs)) :
    Rp P w K c G (upd H a (.dK (L2.putK kvs k v))) ((.ref a, .dct (putK (keyD k) m ms)) :: l) ob := by
  obtain ⟨fL, fO, hl, ho, nd, nf, fh⟩ := h
  cases hl with
  | cons p q =>
    cases p with
    | @dct a kvs' ms f e' hn hs =>
      rw [e] at e'; cases e'
      cases q with
      | @cons v m g l k2 r s =>
        rw [show ((a :: f) ++ (g ++ k2)) ++ fO = (a :: (f ++ g)) ++ (k2 ++ fO) by simp [List.append_assoc]] at nd nf
        have na : ∀ z, z ∈ f ++ g → z ≠ a := fun z hz e => by
          subst e
          exact (List.nodup_cons.mp nd).1 (List.mem_append_left _ hz)
        have nfa : ∀ z, G.fz z → upd H a (.dK (L2.putK kvs k v)) z = H z := fun z hz => upd_ne fun e => nf a List.mem_cons_self (e ▸ hz)
        have hs' := hs.mono (H' := upd H a (.dK (L2.putK kvs k v))) (Gh.le_refl G) nfa fun z hz => upd_ne (na z (List.mem_append_left _ hz))
        have r' := r.mono (H' := upd H a (.dK (L2.putK kvs k v))) (Gh.le_refl G) nfa fun z hz => upd_ne (na z (List.mem_append_right _ hz))
        obtain ⟨f', old, h1, h2⟩ := hs'.put (k := k) r'
        have pp : ((a :: (f ++ g)) ++ (k2 ++ fO)).Perm ((a :: f') ++ (k2 ++ fO) ++ old) := by
          refine (List.Perm.cons a (h2.append_right _)).trans ?_
          refine List.Perm.cons a ?_
          show ((f' ++ old) ++ (k2 ++ fO)).Perm ((f' ++ (k2 ++ fO)) ++ old)
          rw [List.append_assoc, List.append_assoc f' (k2 ++ fO) old]
          exact List.Perm.append_left _ List.perm_append_comm
        have nd' := (List.nodup_append.mp (pp.nodup_iff.mp nd)).1
        refine Rp.change (f := f') (g := []) (f' := []) (m := .val .non) (x := .non) (y := .val .non) s ho nd' (fun z hz => nf z (pp.mem_iff.mpr (List.mem_append_left _ hz))) fh (.dct upd_same ?_ ?_)
        · rw [putK_put1 hn]; exact put1_nd hn
        · rw [putK_put1 hn] at h1 ⊢; exact h1
end
end Tk
/- Rep3 -/
set_option Elab.async false
set_option linter.all false
set_option maxRecDepth 100000
set_option maxHeartbeats 1000000
namespace Tk
open PySem PySem.Spec PyProof.Rows L2
section
variable {P : Program} {w : World} {K : PySem.W.Frag} {c : Cn} {G G' : Gh} {H H' : Hp}
/-! ### fields -/
theorem lookup_hit {f : Str} {v : V} {r : List (Str × V)} : List.lookup f ((f, v) :: r) = some v := by simp [List.lookup]
theorem lookup_miss {f g : Str} {v : V} {r : List (Str × V)} (h : f ≠ g) : List.lookup f ((g, v) :: r) = List.lookup f r := by
  have : (f == g) = false := beq_eq_false_iff_ne.mpr h
  simp [List.lookup, this]
theorem RepF.none (inj : ∀ i j, c.nm i = c.nm j → i = j) {fs : List (Str × V)} {ms : List (Nat × M)} {f : List Addr} {k : Nat} {C : Addr} (h : RepF P w K c G H C fs ms f) (e : getF k ms = none) : fs.lookup (c.nm k) = none := by
  induction h with
  | nil => rfl
  | @cons i v m f vs ms g na a b ih =>
    unfold getF at e
    by_cases q : i = k
    · rw [if_pos q] at e; cases e
    · rw [if_neg q] at e
      rw [lookup_miss fun z => q (inj _ _ z).symm]
      exact ih e
theorem RepF.focus (inj : ∀ i j, c.nm i = c.nm j → i = j) {fs : List (Str × V)} {ms : List (Nat × M)} {f : List Addr} {k : Nat} {m : M} {C : Addr} (h : RepF P w K c G H C fs ms f) (e : getF k ms = some m) :
    NoAttr K C (c.nm k) ∧ ∃ v g rest, fs.lookup (c.nm k) = some v ∧ RepM P w K G H v m g ∧ f.Perm (g ++ rest) ∧
      ∀ (G' : Gh) (H' : Hp) (v' : V) (m' : M) (g' : List Addr), G.le G' → (∀ a, G.fz a → H' a = H a) → (∀ a ∈ rest, H' a = H a) → RepM P w K G' H' v' m' g' → ∃ f', RepF P w K c G' H' C (L2.putF (c.nm k) v' fs) (putF k m' ms) f' ∧ f'.Perm (g' ++ rest) := by
  induction h with
  | nil => cases e
  | @cons i v m0 f vs ms g na a b ih =>
    unfold getF at e
    by_cases q : i = k
    · subst q
      rw [if_pos rfl] at e; cases e
      refine ⟨na, v, f, g, lookup_hit, a, .refl _, fun G' H' v' m' g' hle hk hr r => ⟨g' ++ g, ?_, .refl _⟩⟩
      unfold putF L2.putF
      rw [if_pos rfl, if_pos rfl]
      exact .cons na r (b.mono hle hk hr)
    · rw [if_neg q] at e
      have ne : ¬ c.nm i = c.nm k := fun z => q (inj _ _ z)
      obtain ⟨nk, v1, g1, rest, h1, h2, h3, h4⟩ := ih e
      refine ⟨nk, v1, g1, f ++ rest, by rw [lookup_miss fun z => ne z.symm]; exact h1, h2, ?_, fun G' H' v' m' g' hle hk hr r => ?_⟩
      · refine (List.Perm.append_left f h3).trans ?_
        rw [← List.append_assoc, ← List.append_assoc]
        exact List.Perm.append_right _ List.perm_append_comm
      · obtain ⟨f', z1, z2⟩ := h4 G' H' v' m' g' hle hk (fun x hx => hr x (List.mem_append_right _ hx)) r
        refine ⟨f ++ f', ?_, ?_⟩
        · unfold putF L2.putF
          rw [if_neg q, if_neg ne]
          exact .cons na (a.mono hle hk fun x hx => hr x (List.mem_append_left _ hx)) z1
        · refine (List.Perm.append_left f z2).trans ?_
          rw [← List.append_assoc, ← List.append_assoc]
          exact List.Perm.append_right _ List.perm_append_comm
theorem RepF.put (inj : ∀ i j, c.nm i = c.nm j → i = j) {fs : List (Str × V)} {ms : List (Nat × M)} {f g : List Addr} {k : Nat} {v : V} {m : M} {C : Addr} (nk : NoAttr K C (c.nm k)) (h : RepF P w K c G H C fs ms f) (r : RepM P w K G H v m g) :
    ∃ f' old, RepF P w K c G H C (L2.putF (c.nm k) v fs) (putF k m ms) f' ∧ (f ++ g).Perm (f' ++ old) := by
  induction h with
  | nil => exact ⟨g ++ [], [], .cons nk r .nil, by simp⟩
  | @cons i x y f vs ms f2 na a b ih =>
    unfold putF L2.putF
    by_cases e : i = k
    · subst e
      rw [if_pos rfl, if_pos rfl]
      refine ⟨g ++ f2, f, .cons nk r b, ?_⟩
      refine (List.perm_append_comm).trans ?_
      rw [List.append_assoc]
      exact List.Perm.append_left _ List.perm_append_comm
    · rw [if_neg e, if_neg fun z => e (inj _ _ z)]
      obtain ⟨f', old, h1, h2⟩ := ih
      exact ⟨f ++ f', old, .cons na a h1, by rw [List.append_assoc, List.append_assoc]; exact h2.append_left _⟩
theorem RepF.len {C : Addr} {fs : List (Str × V)} {ms : List (Nat × M)} {f : List Addr} (h : RepF P w K c G H C fs ms f) : fs.length = ms.length := by
  induction h with
  | nil => rfl
  | cons _ _ _ ih => simp [ih]
theorem RepO.focus {r : List (Addr × Addr)} {os : List Ob} {f : List Addr} {i : Nat} {o : Ob} (h : RepO P w K c G H r os f) (e : os[i]? = some o) :
    ∃ a dx fs g rest, r[i]? = some (a, dx) ∧ H a = some (.ins (c.ca o.cls) dx fs) ∧ H dx = some (.own a) ∧ ClX K (c.ca o.cls) ∧ RepF P w K c G H (c.ca o.cls) fs o.fs g ∧ f.Perm (a :: dx :: (g ++ rest)) ∧
      ∀ (G' : Gh) (H' : Hp) (o' : Ob) (fs' : List (Str × V)) (g' : List Addr), G.le G' → (∀ a, G.fz a → H' a = H a) → (∀ a ∈ rest, H' a = H a) → ClX K (c.ca o'.cls) → H' a = some (.ins (c.ca o'.cls) dx fs') → H' dx = some (.own a) → RepF P w K c G' H' (c.ca o'.cls) fs' o'.fs g' →
        ∃ f', RepO P w K c G' H' r (os.set i o') f' ∧ f'.Perm (a :: dx :: (g' ++ rest)) := by
  induction h generalizing i with
  | nil => cases e
  | @cons a dx fs o1 f r os g hc h1 h2 h3 h4 ih =>
    cases i with
    | zero =>
      cases e
      refine ⟨a, dx, fs, f, g, rfl, h1, h2, hc, h3, .refl _, fun G' H' o' fs' g' hle hk hr z0 z1 z2 z3 => ⟨_, .cons z0 z1 z2 z3 (h4.mono hle hk hr), .refl _⟩⟩
    | succ i =>
      obtain ⟨a1, dx1, fs1, g1, rest, q1, q2, q3, q0, q4, q5, q6⟩ := ih (i := i) e
      have mv : ∀ (g' : List Addr), (a :: dx :: (f ++ (a1 :: dx1 :: (g' ++ rest)))).Perm (a1 :: dx1 :: (g' ++ (a :: dx :: (f ++ rest)))) := fun g' => by
        have e1 : a :: dx :: (f ++ (a1 :: dx1 :: (g' ++ rest))) = (a :: dx :: f) ++ ((a1 :: dx1 :: g') ++ rest) := by simp
        have e2 : a1 :: dx1 :: (g' ++ (a :: dx :: (f ++ rest))) = (a1 :: dx1 :: g') ++ ((a :: dx :: f) ++ rest) := by simp
        rw [e1, e2, ← List.append_assoc, ← List.append_assoc]
        exact List.Perm.append_right _ List.perm_append_comm
      refine ⟨a1, dx1, fs1, g1, a :: dx :: (f ++ rest), q1, q2, q3, q0, q4, ?_, fun G' H' o' fs' g' hle hk hr z0 z1 z2 z3 => ?_⟩
      · exact (List.Perm.cons _ (List.Perm.cons _ (List.Perm.append_left _ q5))).trans (mv g1)
      · obtain ⟨f', y1, y2⟩ := q6 G' H' o' fs' g' hle hk (fun x hx => hr x (List.mem_cons_of_mem _ (List.mem_cons_of_mem _ (List.mem_append_right _ hx)))) z0 z1 z2 z3
        refine ⟨_, .cons hc (by rw [hr _ List.mem_cons_self]; exact h1) (by rw [hr _ (List.mem_cons_of_mem _ List.mem_cons_self)]; exact h2) (h3.mono hle hk fun x hx => hr x (List.mem_cons_of_mem _ (List.mem_cons_of_mem _ (List.mem_append_left _ hx)))) y1, ?_⟩
        exact (List.Perm.cons _ (List.Perm.cons _ (List.Perm.append_left _ y2))).trans (mv g')
theorem RepO.len {r : List (Addr × Addr)} {os : List Ob} {f : List Addr} (h : RepO P w K c G H r os f) : r.length = os.length := by
  induction h with
  | nil => rfl
  | cons _ _ _ _ _ ih => simp [ih]
theorem Rp.ob_at {l : List (V × M)} {ob : List Ob} {i : Nat} {o : Ob} (h : Rp P w K c G H l ob) (e : ob[i]? = some o) :
    ∃ a dx fs g, G.ob[i]? = some (a, dx) ∧ H a = some (.ins (c.ca o.cls) dx fs) ∧ ClX K (c.ca o.cls) ∧ RepF P w K c G H (c.ca o.cls) fs o.fs g := by
  obtain ⟨fL, fO, q⟩ := h
  obtain ⟨a, dx, fs, g, rest, h1, h2, h3, h0, h4, h5, _⟩ := q.o.focus e
  exact ⟨a, dx, fs, g, h1, h2, h0, h4⟩
theorem Rp.setF (inj : ∀ i j, c.nm i = c.nm j → i = j) {l : List (V × M)} {ob : List Ob} {i k : Nat} {o : Ob} {v : V} {m : M} {a dx C : Addr} {fs : List (Str × V)} (h : Rp P w K c G H ((v, m) :: l) ob) (e : ob[i]? = some o) (ea : G.ob[i]? = some (a, dx)) (eH : H a = some (.ins C dx fs)) (nk : NoAttr K (c.ca o.cls) (c.nm k)) :
    Rp P w K c G (upd H a (.ins C dx (L2.putF (c.nm k) v fs))) l (ob.set i ⟨o.cls, putF k m o.fs⟩) := by
  obtain ⟨fL, fO, hl, ho, nd, nf, fh⟩ := h
  obtain ⟨a', dx', fs', g, rest, h1, h2, h3, h0, h4, h5, h6⟩ := ho.focus e
  rw [ea] at h1; cases h1
  rw [eH] at h2; cases h2
  cases hl with
  | @cons v m f l k2 r s =>
    obtain ⟨g', old, y1, y2⟩ := h4.put inj (k := k) nk r
    have pp : ((f ++ k2) ++ fO).Perm (a :: dx :: ((g' ++ rest) ++ k2) ++ old) := by
      refine (List.Perm.append_left _ h5).trans ?_
      have e0 : (f ++ k2 ++ a :: dx :: (g ++ rest)).Perm (a :: dx :: ((g ++ f) ++ (rest ++ k2))) := by
        refine List.perm_middle.trans (List.Perm.cons a ?_)
        refine List.perm_middle.trans (List.Perm.cons dx ?_)
        have : ((f ++ k2) ++ (g ++ rest)).Perm ((g ++ rest) ++ (f ++ k2)) := List.perm_append_comm
        refine this.trans ?_
        rw [List.append_assoc, List.append_assoc g f]
        refine List.Perm.append_left g ?_
        rw [← List.append_assoc, ← List.append_assoc]
        exact List.Perm.append_right _ List.perm_append_comm
      refine e0.trans (List.Perm.cons a (List.Perm.cons dx ?_))
      refine (List.Perm.append_right _ y2).trans ?_
      show ((g' ++ old) ++ (rest ++ k2)).Perm (((g' ++ rest) ++ k2) ++ old)
      rw [List.append_assoc, List.append_assoc g', List.append_assoc g']
      exact List.Perm.append_left _ List.perm_append_comm
    have nd' := (List.nodup_append.mp (pp.nodup_iff.mp nd)).1
    have sub : ∀ z, z ∈ a :: dx :: ((g' ++ rest) ++ k2) → z ∈ (f ++ k2) ++ fO := fun z hz => pp.mem_iff.mpr (List.mem_append_left _ hz)
    have nfa : ∀ z, G.fz z → upd H a (.ins (c.ca o.cls) dx (L2.putF (c.nm k) v fs)) z = H z := fun z hz => upd_ne fun e => nf a (sub a List.mem_cons_self) (e ▸ hz)
    have na : ∀ z, z ∈ dx :: ((g' ++ rest) ++ k2) → z ≠ a := fun z hz e => (List.nodup_cons.mp nd').1 (e ▸ hz)
    obtain ⟨fO', z1, z2⟩ := h6 G _ ⟨o.cls, putF k m o.fs⟩ (L2.putF (c.nm k) v fs) g' (Gh.le_refl G) nfa (fun x hx => upd_ne (na x (List.mem_cons_of_mem _ (List.mem_append_left _ (List.mem_append_right _ hx))))) h0 upd_same
      (by rw [upd_ne (na dx List.mem_cons_self)]; exact h3) (y1.mono (Gh.le_refl G) nfa fun x hx => upd_ne (na x (List.mem_cons_of_mem _ (List.mem_append_left _ (List.mem_append_left _ hx)))))
    have pf : (k2 ++ fO').Perm (a :: dx :: ((g' ++ rest) ++ k2)) := by
      refine (List.Perm.append_left _ z2).trans ?_
      exact List.perm_append_comm
    exact ⟨k2, fO', s.mono (Gh.le_refl G) nfa fun x hx => upd_ne (na x (List.mem_cons_of_mem _ (List.mem_append_right _ hx))), z1, pf.nodup_iff.mpr nd', fun x hx => nf x (sub x (pf.mem_iff.mp hx)), fun x hx => by rw [nfa x hx]; exact fh x hx⟩
/-- a dict that a field owns takes one more pair -/
theorem Rp.setFi (inj : ∀ i j, c.nm i = c.nm j → i = j) {l : List (V × M)} {ob : List Ob} {i k : Nat} {o : Ob} {v : V} {m : M} {ms : List (D × M)} {ky : Key} (h : Rp P w K c G H ((v, m) :: l) ob) (e : ob[i]? = some o) (em : getF k o.fs = some (.dct ms)) :
    ∃ a dx fs d kvs, G.ob[i]? = some (a, dx) ∧ H a = some (.ins (c.ca o.cls) dx fs) ∧ fs.lookup (c.nm k) = some (.ref d) ∧ H d = some (.dK kvs) ∧ kvs.length = ms.length ∧
      Rp P w K c G (upd H d (.dK (L2.putK kvs ky v))) l (ob.set i ⟨o.cls, putF k (.dct (putK (keyD ky) m ms)) o.fs⟩) := by
  obtain ⟨fL, fO, hl, ho, nd, nf, fh⟩ := h
  obtain ⟨a, dx, fs, g, rest, h1, h2, h3, h0, h4, h5, h6⟩ := ho.focus e
  obtain ⟨_, v1, g1, rest1, q1, q2, q3, q4⟩ := h4.focus inj em
  cases q2 with
  | @dct d kvs ms fp e1 e2 e3 =>
    refine ⟨a, dx, fs, d, kvs, h1, h2, q1, e1, e3.len.symm, ?_⟩
    cases hl with
    | @cons v m f l k2 r s =>
      have pp : ((f ++ k2) ++ fO).Perm (d :: (fp ++ f) ++ (a :: dx :: (rest1 ++ rest) ++ k2)) := by
        refine (List.Perm.append_left _ h5).trans ?_
        have p1 : (a :: dx :: (g ++ rest)).Perm ((d :: fp) ++ (a :: dx :: (rest1 ++ rest))) := by
          refine (List.Perm.cons a (List.Perm.cons dx (List.Perm.append_right rest q3))).trans ?_
          rw [List.append_assoc]
          exact (List.perm_middle.trans (List.Perm.cons a List.perm_middle)).symm
        refine (List.Perm.append_left _ p1).trans ?_
        refine (List.perm_append_comm).trans ?_
        show (d :: (fp ++ (a :: dx :: (rest1 ++ rest))) ++ (f ++ k2)).Perm _
        refine List.Perm.cons d ?_
        show ((fp ++ (a :: dx :: (rest1 ++ rest))) ++ (f ++ k2)).Perm ((fp ++ f) ++ ((a :: dx :: (rest1 ++ rest)) ++ k2))
        rw [List.append_assoc, List.append_assoc fp f]
        refine List.Perm.append_left fp ?_
        rw [← List.append_assoc, ← List.append_assoc]
        exact List.Perm.append_right _ List.perm_append_comm
      have nd1 := pp.nodup_iff.mp nd
      have na : ∀ z, z ∈ (fp ++ f) ++ (a :: dx :: (rest1 ++ rest) ++ k2) → z ≠ d := fun z hz e => (List.nodup_cons.mp nd1).1 (e ▸ hz)
      have nfd : ∀ z, G.fz z → upd H d (.dK (L2.putK kvs ky v)) z = H z := fun z hz => upd_ne fun e => nf d (pp.mem_iff.mpr List.mem_cons_self) (e ▸ hz)
      have e3' := e3.mono (H' := upd H d (.dK (L2.putK kvs ky v))) (Gh.le_refl G) nfd fun z hz => upd_ne (na z (List.mem_append_left _ (List.mem_append_left _ hz)))
      have r' := r.mono (H' := upd H d (.dK (L2.putK kvs ky v))) (Gh.le_refl G) nfd fun z hz => upd_ne (na z (List.mem_append_left _ (List.mem_append_right _ hz)))
      obtain ⟨f', old, y1, y2⟩ := e3'.put (k := ky) r'
      have hm : RepM P w K G (upd H d (.dK (L2.putK kvs ky v))) (.ref d) (.dct (putK (keyD ky) m ms)) (d :: f') := by
        refine .dct upd_same ?_ ?_
        · rw [putK_put1 e2]; exact put1_nd e2
        · rw [putK_put1 e2] at y1 ⊢; exact y1
      obtain ⟨gF, z1, z2⟩ := q4 G _ (.ref d) _ _ (Gh.le_refl G) nfd (fun x hx => upd_ne (na x (List.mem_append_right _ (List.mem_append_left _ (List.mem_cons_of_mem _ (List.mem_cons_of_mem _ (List.mem_append_left _ hx))))))) hm
      have ep : L2.putF (c.nm k) (.ref d) fs = fs := by
        clear z1
        have gen : ∀ fs : List (Str × V), fs.lookup (c.nm k) = some (.ref d) → L2.putF (c.nm k) (.ref d) fs = fs := by
          intro fs
          induction fs with
          | nil => intro z; cases z
          | cons p r ih =>
            obtain ⟨g, x⟩ := p
            intro z
            unfold L2.putF
            by_cases q : g = c.nm k
            · subst q
              rw [lookup_hit] at z; cases z
              rw [if_pos rfl]
            · rw [if_neg q]
              rw [lookup_miss fun y => q y.symm] at z
              rw [ih z]
        exact gen fs q1
      rw [ep] at z1
      obtain ⟨fO', w1, w2⟩ := h6 G _ ⟨o.cls, putF k (.dct (putK (keyD ky) m ms)) o.fs⟩ fs gF (Gh.le_refl G) nfd (fun x hx => upd_ne (na x (List.mem_append_right _ (List.mem_append_left _ (List.mem_cons_of_mem _ (List.mem_cons_of_mem _ (List.mem_append_right _ hx))))))) h0
        (by rw [upd_ne (na a (List.mem_append_right _ (List.mem_append_left _ List.mem_cons_self)))]; exact h2) (by rw [upd_ne (na dx (List.mem_append_right _ (List.mem_append_left _ (List.mem_cons_of_mem _ List.mem_cons_self))))]; exact h3) z1
      have pf : (k2 ++ fO').Perm ((d :: f') ++ (a :: dx :: (rest1 ++ rest) ++ k2)) := by
        refine (List.Perm.append_left _ w2).trans ?_
        refine (List.perm_append_comm).trans ?_
        have p1 : (a :: dx :: (gF ++ rest)).Perm ((d :: f') ++ (a :: dx :: (rest1 ++ rest))) := by
          refine (List.Perm.cons a (List.Perm.cons dx (List.Perm.append_right rest z2))).trans ?_
          rw [List.append_assoc]
          exact (List.perm_middle.trans (List.Perm.cons a List.perm_middle)).symm
        rw [← List.append_assoc]
        exact List.Perm.append_right _ p1
      have pq : ((f ++ k2) ++ fO).Perm (((d :: f') ++ (a :: dx :: (rest1 ++ rest) ++ k2)) ++ old) := by
        refine pp.trans ?_
        refine (List.Perm.cons d (List.Perm.append_right _ y2)).trans ?_
        show (d :: ((f' ++ old) ++ (a :: dx :: (rest1 ++ rest) ++ k2))).Perm (d :: ((f' ++ (a :: dx :: (rest1 ++ rest) ++ k2)) ++ old))
        refine List.Perm.cons d ?_
        rw [List.append_assoc, List.append_assoc f']
        exact List.Perm.append_left _ List.perm_append_comm
      have nd' := (List.nodup_append.mp (pq.nodup_iff.mp nd)).1
      exact ⟨k2, fO', s.mono (Gh.le_refl G) nfd fun x hx => upd_ne (na x (List.mem_append_right _ (List.mem_append_right _ hx))), w1, pf.nodup_iff.mpr nd', fun x hx => nf x (pq.mem_iff.mpr (List.mem_append_left _ (pf.mem_iff.mp hx))), fun x hx => by rw [nfd x hx]; exact fh x hx⟩
end
end Tk
/- Snd1 -/
set_option Elab.async false
set_option linter.all false
set_option maxRecDepth 100000
set_option maxHeartbeats 1000000
namespace Tk
open PySem PySem.Spec PyProof.Rows L2
/-! ### the slots -/
inductive SlR : List (Option V) → List (Option M) → List (V × M) → Prop
  | nil : SlR [] [] []
  | kn {v : V} {m : M} {σ : List (Option V)} {sl : List (Option M)} {l : List (V × M)} : SlR σ sl l → SlR (some v :: σ) (some m :: sl) ((v, m) :: l)
  | un {x : Option V} {σ : List (Option V)} {sl : List (Option M)} {l : List (V × M)} : SlR σ sl l → SlR (x :: σ) (none :: sl) l
theorem SlR.len {σ : List (Option V)} {sl : List (Option M)} {l : List (V × M)} (h : SlR σ sl l) : σ.length = sl.length := by
  induction h with
  | nil => rfl
  | kn _ ih => simp [ih]
  | un _ ih => simp [ih]
theorem SlR.get {σ : List (Option V)} {sl : List (Option M)} {l : List (V × M)} (h : SlR σ sl l) {i : Nat} {m : M} (e : sl[i]?.join = some m) :
    ∃ v l1 l2, σ[i]? = some (some v) ∧ l = l1 ++ (v, m) :: l2 ∧ (∀ m', SlR σ (sl.set i (some m')) (l1 ++ (v, m') :: l2)) ∧ SlR σ (sl.set i none) (l1 ++ l2) := by
  induction h generalizing i with
  | nil => cases e
  | @kn v0 m0 σ sl l h ih =>
    cases i with
    | zero =>
      cases e
      exact ⟨v0, [], l, rfl, rfl, fun m' => .kn h, .un h⟩
    | succ i =>
      obtain ⟨v, l1, l2, h1, h2, h3, h4⟩ := ih (i := i) e
      exact ⟨v, (v0, m0) :: l1, l2, h1, by rw [h2]; rfl, fun m' => .kn (h3 m'), .kn h4⟩
  | @un x σ sl l h ih =>
    cases i with
    | zero => cases e
    | succ i =>
      obtain ⟨v, l1, l2, h1, h2, h3, h4⟩ := ih (i := i) e
      exact ⟨v, l1, l2, h1, h2, fun m' => .un (h3 m'), .un h4⟩
theorem SlR.put {σ : List (Option V)} {sl : List (Option M)} {l : List (V × M)} (h : SlR σ sl l) {i : Nat} (hi : i < sl.length) (v : V) (m : M) :
    ∃ l1 old l2, l = l1 ++ (old ++ l2) ∧ SlR (σ.set i (some v)) (sl.set i (some m)) (l1 ++ (v, m) :: l2) := by
  induction h generalizing i with
  | nil => cases hi
  | @kn v0 m0 σ sl l h ih =>
    cases i with
    | zero => exact ⟨[], [(v0, m0)], l, rfl, .kn h⟩
    | succ i =>
      obtain ⟨l1, old, l2, h1, h2⟩ := ih (i := i) (Nat.lt_of_succ_lt_succ hi)
      exact ⟨(v0, m0) :: l1, old, l2, by rw [h1]; rfl, .kn h2⟩
  | @un x σ sl l h ih =>
    cases i with
    | zero => exact ⟨[], [], l, rfl, .kn h⟩
    | succ i =>
      obtain ⟨l1, old, l2, h1, h2⟩ := ih (i := i) (Nat.lt_of_succ_lt_succ hi)
      exact ⟨l1, old, l2, h1, .un h2⟩
theorem SlR.drop {σ : List (Option V)} {sl : List (Option M)} {l : List (V × M)} (h : SlR σ sl l) (i : Nat) (x : Option V) :
    ∃ l1 old l2, l = l1 ++ (old ++ l2) ∧ SlR (σ.set i x) (sl.set i none) (l1 ++ l2) := by
  induction h generalizing i with
  | nil => exact ⟨[], [], [], rfl, .nil⟩
  | @kn v0 m0 σ sl l h ih =>
    cases i with
    | zero => exact ⟨[], [(v0, m0)], l, rfl, .un h⟩
    | succ i =>
      obtain ⟨l1, old, l2, h1, h2⟩ := ih i
      exact ⟨(v0, m0) :: l1, old, l2, by rw [h1]; rfl, .kn h2⟩
  | @un x σ sl l h ih =>
    cases i with
    | zero => exact ⟨[], [], l, rfl, .un h⟩
    | succ i =>
      obtain ⟨l1, old, l2, h1, h2⟩ := ih i
      exact ⟨l1, old, l2, h1, .un h2⟩
/-- less is known -/
theorem SlR.forget {σ : List (Option V)} {sl : List (Option M)} {l : List (V × M)} (h : SlR σ sl l) (i : Nat) : ∃ l1 old l2, l = l1 ++ (old ++ l2) ∧ SlR σ (sl.set i none) (l1 ++ l2) := by
  induction h generalizing i with
  | nil => exact ⟨[], [], [], rfl, .nil⟩
  | @kn v0 m0 σ sl l h ih =>
    cases i with
    | zero => exact ⟨[], [(v0, m0)], l, rfl, .un h⟩
    | succ i =>
      obtain ⟨l1, old, l2, h1, h2⟩ := ih i
      exact ⟨(v0, m0) :: l1, old, l2, by rw [h1]; rfl, .kn h2⟩
  | @un x σ sl l h ih =>
    cases i with
    | zero => exact ⟨[], [], l, rfl, .un h⟩
    | succ i =>
      obtain ⟨l1, old, l2, h1, h2⟩ := ih i
      exact ⟨l1, old, l2, h1, .un h2⟩
theorem SlR.start : ∀ {vs : List V} {ms : List M} {n : Nat}, vs.length = ms.length → SlR (vs.map some ++ List.replicate n none) (ms.map some ++ List.replicate n none) (vs.zip ms)
  | [], [], n, _ => by
    induction n with
    | zero => exact .nil
    | succ n ih => exact .un ih
  | _ :: _, _ :: _, n, e => .kn (SlR.start (Nat.succ.inj e))
  | [], _ :: _, _, e => by cases e
  | _ :: _, [], _, e => by cases e

section
variable {P : Program} {w : World} {K : PySem.W.Frag} {c : Cn} {G G' : Gh} {H H' : Hp} {ob : List Ob}
theorem Rp.sub {l1 old l2 T : List (V × M)} (h : Rp P w K c G H ((l1 ++ (old ++ l2)) ++ T) ob) : Rp P w K c G H ((l1 ++ l2) ++ T) ob := by
  have p : ((l1 ++ (old ++ l2)) ++ T).Perm (old ++ ((l1 ++ l2) ++ T)) := by
    have : (l1 ++ (old ++ l2)).Perm (old ++ (l1 ++ l2)) := by
      rw [← List.append_assoc, ← List.append_assoc]
      exact List.Perm.append_right _ List.perm_append_comm
    have := this.append_right T
    rwa [List.append_assoc old] at this
  have h := h.perm p
  have gen : ∀ (o r : List (V × M)), Rp P w K c G H (o ++ r) ob → Rp P w K c G H r ob := by
    intro o r
    induction o with
    | nil => exact id
    | cons x o ih => exact fun z => ih z.tail
  exact gen old _ h
theorem Rp.out {l1 l2 T : List (V × M)} {x : V × M} : Rp P w K c G H ((l1 ++ x :: l2) ++ T) ob ↔ Rp P w K c G H (x :: ((l1 ++ l2) ++ T)) ob := by
  have p : ((l1 ++ x :: l2) ++ T).Perm (x :: ((l1 ++ l2) ++ T)) := by
    rw [List.append_assoc, List.append_assoc]
    exact List.perm_middle
  exact ⟨fun h => h.perm p, fun h => h.perm p.symm⟩
theorem Rp.outT {l T : List (V × M)} {x : V × M} : Rp P w K c G H (l ++ x :: T) ob ↔ Rp P w K c G H (x :: (l ++ T)) ob :=
  ⟨fun h => h.perm List.perm_middle, fun h => h.perm List.perm_middle.symm⟩
end

/-! ### pure expressions -/
def isPk : CE → Bool
  | .pk _ | .pkf _ _ | .pki _ _ => true
  | _ => false
mutual
def pur : CE → Bool
  | .cst _ | .var _ | .frz _ | .mov _ | .glo _ | .pk _ | .dnew => true
  | .fld e _ | .pkf e _ | .fz e | .not e => pur e
  | .pki e k => pur e && pur k
  | .tup es | .lst es | .op _ es | .and es | .or es => purs es
  | .chn _ _ a b c | .ite a b c => pur a && pur b && pur c
  | .rng _ | .call _ _ | .meth _ _ _ | .make _ _ | .comp _ _ _ _ _ _ => false
def purs : CEs → Bool
  | .nil => true
  | .cons e es => pur e && purs es
end
/-- operands: behind one that is only looked at all are pure -/
def okOpd : CEs → Bool
  | .nil => true
  | .cons e es => (!isPk e || purs es) && okOpd es
def noPk : CEs → Bool
  | .nil => true
  | .cons e es => !isPk e && noPk es

/-- what is fixed: the row's program, the written part, the core program -/
structure Fx where
  P : Program
  w : World
  K : PySem.W.Frag
  mg : Str → Option Value
  c : Cn
  PG : Prog
  inj : ∀ i j, c.nm i = c.nm j → i = j
  base : Heap
  fa : Nat → Addr
section
variable (F : Fx) (c1 c0 : CallFn)
def Stt (G : Gh) (H : Hp) (σ : L2.St) (S : Sg) (T : List (V × M)) : Prop := ∃ l, SlR σ S.sl l ∧ Rp F.P F.w F.K F.c G H (l ++ T) S.ob
/-- an exception that leaves: its class, its fields -/
def XR (G : Gh) (H : Hp) (cls : Value) (d : Option Addr) (x : Nat) (fs : List D) : Prop :=
  cls = .ref (F.c.ca x) ∧ F.PG.sup x x = true ∧ ((fs = [] ∧ F.PG.xf x = [] ∧ d = none) ∨ ∃ dd xs, d = some dd ∧ H dd = some (.xd xs) ∧ fs.length = (F.PG.xf x).length ∧
    ∀ (i f : Nat) (dv : D), (F.PG.xf x)[i]? = some f → fs[i]? = some dv → ∃ v, xs.lookup (F.c.nm f) = some v ∧ RepD F.P F.w F.K G H v dv)
/-- behind an exception -/
def Xk (W : WX) (G : Gh) (σ : L2.St) (T : List (V × M)) (x : Nat) (fs : List D) (S : Sg) : Prop :=
  ∀ cls d H' G', G.le G' → Stt F G' H' σ S T → XR F G' H' cls d x fs → W cls d σ H'
def tev (W : WX) (e : CE) : TE := fun σ H Q => ∃ G S T, Stt F G H σ S T ∧ match ev F.PG c1 c0 e S with
  | .ok m S' => ∀ V H' G', G.le G' → (pur e = true → Same H H') → Stt F G' H' σ S' ((V, m) :: T) → Q V H'
  | .exc x fs S' => Xk F W G σ T x fs S'
  | .bad => False
def tevO (W : WX) (e : CE) : TE := fun σ H Q => ∃ G S T, Stt F G H σ S T ∧ match ev F.PG c1 c0 e S with
  | .ok m S' => ∀ V H' G', G.le G' → (pur e = true → Same H H') → (if isPk e = true then Stt F G' H' σ S' T ∧ ∃ f, RepM F.P F.w F.K G' H' V m f else Stt F G' H' σ S' ((V, m) :: T)) → Q V H'
  | .exc x fs S' => Xk F W G σ T x fs S'
  | .bad => False
def tevs (W : WX) (es : CEs) : TA := fun σ H Q => ∃ G S T, Stt F G H σ S T ∧ match evs F.PG c1 c0 es S with
  | .ok ms S' => ∀ vs H' G', G.le G' → (purs es = true → Same H H') → vs.length = ms.length → Stt F G' H' σ S' (vs.zip ms ++ T) → Q vs H'
  | .exc x fs S' => Xk F W G σ T x fs S'
  | .bad => False
/-- as a test -/
def tet (W : WX) (e : CE) : TT := fun σ H Q => ∃ G S T, Stt F G H σ S T ∧ match ev F.PG c1 c0 e S with
  | .ok m S' => ∃ b, m = .val (.bl b) ∧ ∀ H' G', G.le G' → (pur e = true → Same H H') → Stt F G' H' σ S' T → Q b H'
  | .exc x fs S' => Xk F W G σ T x fs S'
  | .bad => False
end
section
variable {F : Fx} {c1 c0 : CallFn} {W : WX} {G G' : Gh} {H H' : Hp} {σ : L2.St} {S S' : Sg} {T : List (V × M)} {X : Cx} {e e1 : Expr}
theorem PE.imp {t t' : TE} (h : PE X e t) (i : ∀ σ H Q, t' σ H Q → t σ H Q) : PE X e t' := ⟨fun pins s σ H Q I z => h.run pins s σ H Q I (i σ H Q z)⟩
theorem PT.imp {t t' : TT} (h : PT X e t) (i : ∀ σ H Q, t' σ H Q → t σ H Q) : PT X e t' := ⟨fun pins s σ H Q I z => h.run pins s σ H Q I (i σ H Q z)⟩
theorem PA.imp {es : List Expr} {t t' : TA} (h : PA X es t) (i : ∀ σ H Q, t' σ H Q → t σ H Q) : PA X es t' := ⟨fun pos pins s σ H Q I z => h.run pos pins s σ H Q I (i σ H Q z)⟩
theorem tev_mono {a : CE} {Q Q' : VK} (h : tev F c1 c0 W a σ H Q) (i : ∀ V H', Q V H' → Q' V H') : tev F c1 c0 W a σ H Q' := by
  obtain ⟨G, S, T, hs, h⟩ := h
  refine ⟨G, S, T, hs, ?_⟩
  cases q : ev F.PG c1 c0 a S with
  | ok m S' => rw [q] at h; exact fun V H' G' a b z => i V H' (h V H' G' a b z)
  | exc x fs S' => rw [q] at h; exact h
  | bad => rw [q] at h; exact h
theorem tevO_mono {a : CE} {Q Q' : VK} (h : tevO F c1 c0 W a σ H Q) (i : ∀ V H', Q V H' → Q' V H') : tevO F c1 c0 W a σ H Q' := by
  obtain ⟨G, S, T, hs, h⟩ := h
  refine ⟨G, S, T, hs, ?_⟩
  cases q : ev F.PG c1 c0 a S with
  | ok m S' => rw [q] at h; exact fun V H' G' a b z => i V H' (h V H' G' a b z)
  | exc x fs S' => rw [q] at h; exact h
  | bad => rw [q] at h; exact h
/-- what an evaluation without a value leaves to its surroundings -/
def Out {α : Type} (F : Fx) (W : WX) (G : Gh) (σ : L2.St) (T : List (V × M)) : R α → Prop
  | .ok _ _ => True
  | .exc x fs S => Xk F W G σ T x fs S
  | .bad => False
theorem tev_of {a : CE} (hs : Stt F G H σ S T) (ho : Out F W G σ T (ev F.PG c1 c0 a S)) :
    tev F c1 c0 W a σ H fun V H1 => ∃ G1 m S1, ev F.PG c1 c0 a S = .ok m S1 ∧ G.le G1 ∧ (pur a = true → Same H H1) ∧ Stt F G1 H1 σ S1 ((V, m) :: T) := by
  refine ⟨G, S, T, hs, ?_⟩
  cases q : ev F.PG c1 c0 a S with
  | ok m S' => exact fun V H' G' a b z => ⟨G', m, S', rfl, a, b, z⟩
  | exc x fs S' => rw [q] at ho; exact ho
  | bad => rw [q] at ho; exact ho
theorem tevO_of {a : CE} (hs : Stt F G H σ S T) (ho : Out F W G σ T (ev F.PG c1 c0 a S)) :
    tevO F c1 c0 W a σ H fun V H1 => ∃ G1 m S1, ev F.PG c1 c0 a S = .ok m S1 ∧ G.le G1 ∧ (pur a = true → Same H H1) ∧ (if isPk a = true then Stt F G1 H1 σ S1 T ∧ ∃ f, RepM F.P F.w F.K G1 H1 V m f else Stt F G1 H1 σ S1 ((V, m) :: T)) := by
  refine ⟨G, S, T, hs, ?_⟩
  cases q : ev F.PG c1 c0 a S with
  | ok m S' => exact fun V H' G' a b z => ⟨G', m, S', rfl, a, b, z⟩
  | exc x fs S' => rw [q] at ho; exact ho
  | bad => rw [q] at ho; exact ho
theorem tevs_of {a : CEs} (hs : Stt F G H σ S T) (ho : Out F W G σ T (evs F.PG c1 c0 a S)) :
    tevs F c1 c0 W a σ H fun vs H1 => ∃ G1 ms S1, evs F.PG c1 c0 a S = .ok ms S1 ∧ G.le G1 ∧ (purs a = true → Same H H1) ∧ vs.length = ms.length ∧ Stt F G1 H1 σ S1 (vs.zip ms ++ T) := by
  refine ⟨G, S, T, hs, ?_⟩
  cases q : evs F.PG c1 c0 a S with
  | ok m S' => exact fun V H' G' a b l z => ⟨G', m, S', rfl, a, b, l, z⟩
  | exc x fs S' => rw [q] at ho; exact ho
  | bad => rw [q] at ho; exact ho
theorem tet_of {a : CE} (hs : Stt F G H σ S T) (ho : match ev F.PG c1 c0 a S with | .ok m _ => ∃ b, m = .val (.bl b) | .exc x fs S' => Xk F W G σ T x fs S' | .bad => False) :
    tet F c1 c0 W a σ H fun b H1 => ∃ G1 S1, ev F.PG c1 c0 a S = .ok (.val (.bl b)) S1 ∧ G.le G1 ∧ (pur a = true → Same H H1) ∧ Stt F G1 H1 σ S1 T := by
  refine ⟨G, S, T, hs, ?_⟩
  cases q : ev F.PG c1 c0 a S with
  | ok m S' =>
    rw [q] at ho
    obtain ⟨b, rfl⟩ := ho
    exact ⟨b, rfl, fun H' G' a z y => ⟨G', S', rfl, a, z, y⟩⟩
  | exc x fs S' => rw [q] at ho; exact ho
  | bad => rw [q] at ho; exact ho
theorem tet_mono {a : CE} {Q Q' : Bool → Hp → Prop} (h : tet F c1 c0 W a σ H Q) (i : ∀ b H', Q b H' → Q' b H') : tet F c1 c0 W a σ H Q' := by
  obtain ⟨G, S, T, hs, h⟩ := h
  refine ⟨G, S, T, hs, ?_⟩
  cases q : ev F.PG c1 c0 a S with
  | ok m S' =>
    rw [q] at h
    obtain ⟨b, e, h⟩ := h
    exact ⟨b, e, fun H' G' a z y => i b H' (h H' G' a z y)⟩
  | exc x fs S' => rw [q] at h; exact h
  | bad => rw [q] at h; exact h
theorem tevs_mono {a : CEs} {Q Q' : List V → Hp → Prop} (h : tevs F c1 c0 W a σ H Q) (i : ∀ V H', Q V H' → Q' V H') : tevs F c1 c0 W a σ H Q' := by
  obtain ⟨G, S, T, hs, h⟩ := h
  refine ⟨G, S, T, hs, ?_⟩
  cases q : evs F.PG c1 c0 a S with
  | ok m S' => rw [q] at h; exact fun V H' G' a b l z => i V H' (h V H' G' a b l z)
  | exc x fs S' => rw [q] at h; exact h
  | bad => rw [q] at h; exact h
theorem Xk.mono {x : Nat} {fs : List D} (h : Xk F W G σ T x fs S) (le : G.le G') : Xk F W G' σ T x fs S := fun cls d H' G1 l z r => h cls d H' G1 (Gh.le_trans le l) z r
theorem Xk.drop {x : Nat} {fs : List D} {p : V × M} (h : Xk F W G σ T x fs S) : Xk F W G σ (p :: T) x fs S := fun cls d H' G1 l ⟨L, a, b⟩ r => h cls d H' G1 l ⟨L, a, (Rp.outT.mp b).tail⟩ r
theorem Stt.tail {p : V × M} (h : Stt F G H σ S (p :: T)) : Stt F G H σ S T := let ⟨L, a, b⟩ := h; ⟨L, a, (Rp.outT.mp b).tail⟩
theorem Stt.head {v : V} {m : M} (h : Stt F G H σ S ((v, m) :: T)) : ∃ f, RepM F.P F.w F.K G H v m f := let ⟨L, a, b⟩ := h; (Rp.outT.mp b).head
theorem Stt.fh (h : Stt F G H σ S T) : ∀ a, G.fz a → H a ≠ none := let ⟨_, _, b⟩ := h; b.fh
theorem same_ne (s : Same H H') : ∀ a, H a ≠ none → H' a = H a := fun a h => by
  cases q : H a with
  | none => exact absurd q h
  | some o => exact s a o q
theorem Same.rfl' : Same H H := fun _ _ h => h
theorem Same.tr {H1 H2 H3 : Hp} (a : Same H1 H2) (b : Same H2 H3) : Same H1 H3 := fun x o h => b x o (a x o h)
theorem Same.upd {p : Addr} {o : HO} (h : H p = none) : Same H (L2.upd H p o) := fun b u e => by rw [upd_ne (ne_of_none e h)]; exact e
/-- what is seen stays so -/
theorem RepM.same {v : V} {m : M} {f : List Addr} (r : RepM F.P F.w F.K G H v m f) (fh : ∀ a, G.fz a → H a ≠ none) (le : G.le G') (s : Same H H') : RepM F.P F.w F.K G' H' v m f :=
  r.mono le (fun a z => same_ne s a (fh a z)) fun a z => same_ne s a (r.there a z)
end
end Tk
/- Snd2 -/
set_option Elab.async false
set_option linter.all false
set_option maxRecDepth 100000
set_option maxHeartbeats 1000000
namespace Tk
open PySem PySem.Spec PyProof.Rows L2
section
variable {F : Fx} {c1 c0 : CallFn} {W : WX} {G G' : Gh} {H H' : Hp} {σ : L2.St} {S S' : Sg} {T : List (V × M)} {X : Cx} {e e1 : Expr}
abbrev RM (F : Fx) (G : Gh) (H : Hp) := RepM F.P F.w F.K G H
abbrev RD (F : Fx) (G : Gh) (H : Hp) := RepD F.P F.w F.K G H
/-- values and what they are, some looked at in their places -/
inductive RZ (F : Fx) (G : Gh) (H : Hp) : List V → List M → Prop
  | nil : RZ F G H [] []
  | cons {v : V} {m : M} {f : List Addr} {vs : List V} {ms : List M} : RM F G H v m f → RZ F G H vs ms → RZ F G H (v :: vs) (m :: ms)
/-- a result: nothing that stood is changed -/
def Res (F : Fx) (G : Gh) (H : Hp) (m : M) (V : V) (H' : Hp) : Prop := Same H H' ∧ ∀ (σ : L2.St) S T, Stt F G H σ S T → ∃ G', G.le G' ∧ Stt F G' H' σ S ((V, m) :: T)
theorem res_val {v : V} {d : D} (r : RD F G H v d) : Res F G H (.val d) v H :=
  ⟨Same.rfl', fun σ S T ⟨L, a, b⟩ => ⟨G, Gh.le_refl G, L, a, Rp.outT.mpr (b.val r)⟩⟩
theorem res_bl {b : Bool} : Res F G H (.val (.bl b)) (.bl b) H := res_val (.bl b)
theorem res_int {i : Int} : Res F G H (.val (.int i)) (.int i) H := res_val (.int i)
theorem res_str {s : List Nat} : Res F G H (.val (.str s)) (.str (mkS s)) H := res_val (by have := @RepD.str F.P F.w F.K G H (mkS s); exact this)
theorem res_tup {vs : List V} {ds : List D} {p : Addr} (r : RepDs F.P F.w F.K G H vs ds) (hp : H p = none) : Res F G H (.val (.tup ds)) (.ref p) (upd H p (.tup vs)) :=
  ⟨Same.upd hp, fun σ S T ⟨L, a, b⟩ => ⟨G.more p, G.more_le p, L, a, Rp.outT.mpr (b.new_tup r hp)⟩⟩
theorem RepMs.vals : ∀ {vs : List V} {ds : List D}, RepDs F.P F.w F.K G H vs ds → RepMs F.P F.w F.K G H vs (ds.map .val) []
  | [], [], _ => .nil
  | _ :: _, _ :: _, h => by cases h with | cons a b => exact .cons (f := []) (g := []) (.val a) (RepMs.vals b)
  | [], _ :: _, h => by cases h
  | _ :: _, [], h => by cases h
theorem res_lst {vs : List V} {ds : List D} {p : Addr} (r : RepDs F.P F.w F.K G H vs ds) (hp : H p = none) : Res F G H (.lst (ds.map .val)) (.ref p) (upd H p (.lst vs)) := by
  refine ⟨Same.upd hp, fun σ S T ⟨L, a, b⟩ => ⟨G, Gh.le_refl G, L, a, Rp.outT.mpr ?_⟩⟩
  obtain ⟨fL, fO, q⟩ := b
  have hz : Rp F.P F.w F.K F.c G H (vs.zip (ds.map .val) ++ (L ++ T)) S.ob := ⟨[] ++ fL, fO, RepL.join (RepMs.vals r) q.l, q.o, q.nd, q.nf, q.fh⟩
  exact hz.new_lst (by simp [r.len]) hp
/-! ### what is seen -/
/-- a value as data, in its place -/
def Vw (F : Fx) (G : Gh) (H : Hp) (v : V) (d : D) : Prop := ∃ m f, RM F G H v m f ∧ m.fz = d
inductive Vws (F : Fx) (G : Gh) (H : Hp) : List V → List D → Prop
  | nil : Vws F G H [] []
  | cons {v : V} {d : D} {vs : List V} {ds : List D} : Vw F G H v d → Vws F G H vs ds → Vws F G H (v :: vs) (d :: ds)
theorem Vws.len {vs : List V} {ds : List D} (h : Vws F G H vs ds) : vs.length = ds.length := by
  induction h with
  | nil => rfl
  | cons _ _ ih => simp [ih]
theorem vws_ds : ∀ {vs : List V} {ds : List D}, RepDs F.P F.w F.K G H vs ds → Vws F G H vs ds
  | [], [], _ => .nil
  | _ :: _, _ :: _, h => by cases h with | cons a b => exact .cons ⟨.val _, [], .val a, rfl⟩ (vws_ds b)
  | [], _ :: _, h => by cases h
  | _ :: _, [], h => by cases h
theorem vws_ms : ∀ {vs : List V} {ms : List M} {f : List Addr}, RepMs F.P F.w F.K G H vs ms f → Vws F G H vs (M.fzs ms)
  | [], [], _, _ => .nil
  | _ :: _, _ :: _, _, h => by cases h with | cons a b => exact .cons ⟨_, _, a, rfl⟩ (vws_ms b)
  | [], _ :: _, _, h => by cases h
  | _ :: _, [], _, h => by cases h
theorem sqt_of {a : Addr} {vs : List V} (h : (G.fz a ∧ Rd H a (.tup vs)) ∨ KT F.K a vs) : SqT F.K H a vs := h.imp And.right id
theorem sql_of {a : Addr} {vs : List V} (h : (G.fz a ∧ Rd H a (.lst vs)) ∨ KL F.K a vs) : SqL F.K H a vs := h.imp And.right id
/-- a list or a tuple, by its items -/
theorem seq_of {v : V} {m : M} {f : List Addr} {ds : List D} (r : RM F G H v m f) (h : m.seq = some ds) : ∃ a vs, v = .ref a ∧ (SqL F.K H a vs ∨ SqT F.K H a vs) ∧ Vws F G H vs ds := by
  cases m with
  | val d =>
    cases r with
    | val r =>
      cases d with
      | tup xs =>
        cases (show some xs = some ds from h)
        cases r with
        | @tup a vs _ h1 h2 => exact ⟨a, vs, rfl, .inr (sqt_of h1), vws_ds h2⟩
      | lst xs =>
        cases (show some xs = some ds from h)
        cases r with
        | @lst a vs _ h1 h0 h2 => exact ⟨a, vs, rfl, .inl (.inl (.inl h0)), vws_ds h2⟩
      | scr xs =>
        cases (show some xs = some ds from h)
        cases r with
        | @scr a vs _ h1 h2 => exact ⟨a, vs, rfl, .inl (sql_of h1), vws_ds h2⟩
      | _ => cases h
  | lst ms =>
    cases (show some (M.fzs ms) = some ds from h)
    cases r with
    | @lst a vs _ f h1 h2 => exact ⟨a, vs, rfl, .inl (.inl (.inl h1)), vws_ms h2⟩
  | dct _ => cases h
theorem py_lst {ms : List M} : (D.lst (M.fzs ms)).py = (D.pys (M.fzs ms)).map .list := rfl
mutual
theorem dp_of : ∀ {m : M} {v : V} {f : List Addr} {p : PyData}, RM F G H v m f → m.fz.py = some p → Dp F.K H v p
  | .val d, v, _, p, r, e => by
    cases r with
    | val r => exact dp_ofD r e
  | .lst ms, v, _, p, r, e => by
    cases r with
    | @lst a vs _ f h1 h2 =>
      have e' : (D.pys (M.fzs ms)).map PyData.list = some p := e
      cases q : D.pys (M.fzs ms) with
      | none => rw [q] at e'; cases e'
      | some ps =>
        rw [q] at e'; cases e'
        exact .lst (.inl (.inl h1)) (dp_ofs h2 q)
  | .dct _, _, _, _, _, e => by cases e
theorem dp_ofs : ∀ {ms : List M} {vs : List V} {f : List Addr} {ps : List PyData}, RepMs F.P F.w F.K G H vs ms f → D.pys (M.fzs ms) = some ps → DpAll F.K H vs ps
  | [], _, _, ps, r, e => by cases r; cases e; exact .nil
  | m :: ms, _, _, ps, r, e => by
    cases r with
    | cons a b =>
      have e' : (match m.fz.py, D.pys (M.fzs ms) with | some a, some b => some (a :: b) | _, _ => none) = some ps := e
      cases q1 : m.fz.py with
      | none => rw [q1] at e'; cases e'
      | some x =>
        cases q2 : D.pys (M.fzs ms) with
        | none => rw [q1, q2] at e'; cases e'
        | some y =>
          rw [q1, q2] at e'; cases e'
          exact .cons (dp_of a q1) (dp_ofs b q2)
theorem dp_ofD : ∀ {d : D} {v : V} {p : PyData}, RD F G H v d → d.py = some p → Dp F.K H v p
  | .non, _, _, r, e => by cases r; cases e; exact .non
  | .bl b, _, _, r, e => by cases r; cases e; exact .bl b
  | .int i, _, _, r, e => by cases r; cases e; exact .int i
  | .str s, _, _, r, e => by
    cases r with
    | str x => cases e; exact .str x
  | .tup xs, _, _, r, e => by
    cases r with
    | tup h1 h2 =>
      have e' : (D.pys xs).map PyData.tuple = some _ := e
      cases q : D.pys xs with
      | none => rw [q] at e'; cases e'
      | some ps =>
        rw [q] at e'; cases e'
        exact .tup (sqt_of h1) (dp_ofDs h2 q)
  | .lst xs, _, _, r, e => by
    cases r with
    | lst h1 h0 h2 =>
      have e' : (D.pys xs).map PyData.list = some _ := e
      cases q : D.pys xs with
      | none => rw [q] at e'; cases e'
      | some ps =>
        rw [q] at e'; cases e'
        exact .lst (.inl (.inl h0)) (dp_ofDs h2 q)
  | .dct _, _, _, _, e => by cases e
  | .obj _, _, _, _, e => by cases e
  | .scr _, _, _, _, e => by cases e
theorem dp_ofDs : ∀ {ds : List D} {vs : List V} {ps : List PyData}, RepDs F.P F.w F.K G H vs ds → D.pys ds = some ps → DpAll F.K H vs ps
  | [], _, ps, r, e => by cases r; cases e; exact .nil
  | d :: ds, _, ps, r, e => by
    cases r with
    | cons a b =>
      have e' : (match d.py, D.pys ds with | some a, some b => some (a :: b) | _, _ => none) = some ps := e
      cases q1 : d.py with
      | none => rw [q1] at e'; cases e'
      | some x =>
        cases q2 : D.pys ds with
        | none => rw [q1, q2] at e'; cases e'
        | some y =>
          rw [q1, q2] at e'; cases e'
          exact .cons (dp_ofD a q1) (dp_ofDs b q2)
end
/-- flat data, by its value -/
def dv : D → V
  | .non => .non
  | .bl b => .bl b
  | .int i => .int i
  | .str s => .str (mkS s)
  | _ => .non
theorem flat_of {v : V} {d : D} (r : RD F G H v d) (h : d.flat = true) : v = dv d := by
  cases r <;> first | rfl | cases h
theorem flat_ofM {v : V} {m : M} {f : List Addr} (r : RM F G H v m f) (h : m.fz.flat = true) : v = dv m.fz := by
  cases m with
  | val d => cases r with | val r => exact flat_of r h
  | lst _ => cases h
  | dct _ => cases h
theorem flatV_dv {d : D} (h : d.flat = true) : flatV (dv d) = true := by cases d <;> first | rfl | cases h
theorem eqV_dv {a b : D} (ha : a.flat = true) (hb : b.flat = true) : eqV (dv a) (dv b) = a.eqF b := by
  cases a <;> cases b <;> first
    | rfl
    | (cases ha; done)
    | (cases hb; done)
    | skip
  rename_i x y
  show (mkS x == mkS y) = (x == y)
  by_cases e : x = y
  · subst e; simp
  · rw [beq_eq_false_iff_ne.mpr e]
    exact beq_eq_false_iff_ne.mpr fun z => e (congrArg unS z)
theorem vws_flat : ∀ {vs : List V} {ds : List D}, Vws F G H vs ds → ds.all D.flat = true → vs = ds.map dv
  | _, _, .nil, _ => rfl
  | _, _, .cons (d := d) ⟨m, f, r, e⟩ b, h => by
    rw [List.all_cons, Bool.and_eq_true] at h
    subst e
    rw [List.map_cons, ← vws_flat b h.2, ← flat_ofM r h.1]
theorem RZ.one {vs : List V} {m : M} (h : RZ F G H vs [m]) : ∃ v f, vs = [v] ∧ RM F G H v m f := by
  cases h with
  | cons a b => cases b; exact ⟨_, _, rfl, a⟩
theorem RZ.two {vs : List V} {m n : M} (h : RZ F G H vs [m, n]) : ∃ v u f g, vs = [v, u] ∧ RM F G H v m f ∧ RM F G H u n g := by
  cases h with
  | cons a b =>
    obtain ⟨u, g, rfl, r⟩ := RZ.one b
    exact ⟨_, _, _, _, rfl, a, r⟩
theorem RZ.len {vs : List V} {ms : List M} (h : RZ F G H vs ms) : vs.length = ms.length := by
  induction h with
  | nil => rfl
  | cons _ _ ih => simp [ih]
theorem RZ.same {vs : List V} {ms : List M} (h : RZ F G H vs ms) (fh : ∀ a, G.fz a → H a ≠ none) (le : G.le G') (s : Same H H') : RZ F G' H' vs ms := by
  induction h with
  | nil => exact .nil
  | cons a _ ih => exact .cons (a.same fh le s) ih
/-! ### operands -/
def tevsO (F : Fx) (c1 c0 : CallFn) (W : WX) (es : CEs) : TA := fun σ H Q => ∃ G S T, Stt F G H σ S T ∧ match evs F.PG c1 c0 es S with
  | .ok ms S' => ∀ vs H' G', G.le G' → (purs es = true → Same H H') → RZ F G' H' vs ms → Stt F G' H' σ S' T → Q vs H'
  | .exc x fs S' => Xk F W G σ T x fs S'
  | .bad => False
theorem tevsO_of {a : CEs} (hs : Stt F G H σ S T) (ho : Out F W G σ T (evs F.PG c1 c0 a S)) :
    tevsO F c1 c0 W a σ H fun vs H1 => ∃ G1 ms S1, evs F.PG c1 c0 a S = .ok ms S1 ∧ G.le G1 ∧ (purs a = true → Same H H1) ∧ RZ F G1 H1 vs ms ∧ Stt F G1 H1 σ S1 T := by
  refine ⟨G, S, T, hs, ?_⟩
  cases q : evs F.PG c1 c0 a S with
  | ok m S' => exact fun V H' G' a b l z => ⟨G', m, S', rfl, a, b, l, z⟩
  | exc x fs S' => rw [q] at ho; exact ho
  | bad => rw [q] at ho; exact ho
theorem tevsO_mono {a : CEs} {Q Q' : List V → Hp → Prop} (h : tevsO F c1 c0 W a σ H Q) (i : ∀ V H', Q V H' → Q' V H') : tevsO F c1 c0 W a σ H Q' := by
  obtain ⟨G, S, T, hs, h⟩ := h
  refine ⟨G, S, T, hs, ?_⟩
  cases q : evs F.PG c1 c0 a S with
  | ok m S' => rw [q] at h; exact fun V H' G' a b l z => i V H' (h V H' G' a b l z)
  | exc x fs S' => rw [q] at h; exact h
  | bad => rw [q] at h; exact h
theorem evs_cons {a : CE} {es : CEs} : evs F.PG c1 c0 (.cons a es) S = (ev F.PG c1 c0 a S).bind fun m S => (evs F.PG c1 c0 es S).bind fun ms S => .ok (m :: ms) S := rfl
/-- the first operand, then the others -/
theorem opd_cons {a : CE} {es : CEs} {Z : V → List V → Hp → Prop} (hpk : isPk a = true → purs es = true) (hs : Stt F G H σ S T) (ho : Out F W G σ T (evs F.PG c1 c0 (.cons a es) S))
    (k : ∀ x xs H2 G2 S2 ms, evs F.PG c1 c0 (.cons a es) S = .ok ms S2 → G.le G2 → (pur a = true → purs es = true → Same H H2) → RZ F G2 H2 (x :: xs) ms → Stt F G2 H2 σ S2 T → Z x xs H2) :
    tevO F c1 c0 W a σ H fun x H1 => tevsO F c1 c0 W es σ H1 fun xs H2 => Z x xs H2 := by
  rw [evs_cons] at ho
  have o1 : Out F W G σ T (ev F.PG c1 c0 a S) := by
    cases q : ev F.PG c1 c0 a S with
    | ok m S1 => trivial
    | exc x fs S1 => rw [q] at ho; exact ho
    | bad => rw [q] at ho; exact ho
  refine tevO_mono (tevO_of hs o1) fun x H1 ⟨G1, m, S1, e1, l1, s1, h1⟩ => ?_
  rw [e1] at ho
  by_cases pk : isPk a = true
  · rw [if_pos pk] at h1
    obtain ⟨h1, f, r1⟩ := h1
    have o2 : Out F W G1 σ T (evs F.PG c1 c0 es S1) := by
      have ho : Out F W G σ T ((evs F.PG c1 c0 es S1).bind fun ms S => R.ok (m :: ms) S) := ho
      cases q : evs F.PG c1 c0 es S1 with
      | ok ms S2 => trivial
      | exc x fs S2 => rw [q] at ho; exact Xk.mono ho l1
      | bad => rw [q] at ho; exact ho
    refine tevsO_mono (tevsO_of h1 o2) fun xs H2 ⟨G2, ms, S2, e2, l2, s2, rz, h2⟩ => ?_
    refine k x xs H2 G2 S2 (m :: ms) (by rw [evs_cons, e1]; show (evs F.PG c1 c0 es S1).bind _ = _; rw [e2]; rfl) (Gh.le_trans l1 l2) (fun p q => Same.tr (s1 p) (s2 q)) (.cons (r1.same h1.fh l2 (s2 (hpk pk))) rz) h2
  · rw [if_neg pk] at h1
    have o2 : Out F W G1 σ ((x, m) :: T) (evs F.PG c1 c0 es S1) := by
      have ho : Out F W G σ T ((evs F.PG c1 c0 es S1).bind fun ms S => R.ok (m :: ms) S) := ho
      cases q : evs F.PG c1 c0 es S1 with
      | ok ms S2 => trivial
      | exc y fs S2 => rw [q] at ho; exact Xk.drop (Xk.mono ho l1)
      | bad => rw [q] at ho; exact ho
    refine tevsO_mono (tevsO_of h1 o2) fun xs H2 ⟨G2, ms, S2, e2, l2, s2, rz, h2⟩ => ?_
    obtain ⟨f, r1⟩ := h2.head
    exact k x xs H2 G2 S2 (m :: ms) (by rw [evs_cons, e1]; show (evs F.PG c1 c0 es S1).bind _ = _; rw [e2]; rfl) (Gh.le_trans l1 l2) (fun p q => Same.tr (s1 p) (s2 q)) (.cons r1 rz) h2.tail
/-- operands as an argument list -/
theorem pa_nilO : PA X [] (tevsO F c1 c0 W .nil) := PA.imp pa_nil fun σ H Q ⟨G, S, T, hs, h⟩ => h [] H G (Gh.le_refl G) (fun _ => Same.rfl') .nil hs
theorem pa_consO {a : CE} {ces : CEs} {es : List Expr} (hpk : (!isPk a || purs ces) = true) (he : PE X e (tevO F c1 c0 W a)) (hr : PA X es (tevsO F c1 c0 W ces)) (hs : starEach (e :: es) X.env = (false, eval e X.env) :: starEach es X.env) :
    PA X (e :: es) (tevsO F c1 c0 W (.cons a ces)) := by
  refine PA.imp (pa_cons he hr hs) fun σ H Q ⟨G, S, T, hst, h⟩ => ?_
  have hpk' : isPk a = true → purs ces = true := fun z => by rw [z] at hpk; exact hpk
  have ho : Out F W G σ T (evs F.PG c1 c0 (.cons a ces) S) := by
    cases q : evs F.PG c1 c0 (.cons a ces) S with
    | ok ms S1 => trivial
    | exc x fs S1 => rw [q] at h; exact h
    | bad => rw [q] at h; exact h
  refine opd_cons hpk' hst ho fun x xs H2 G2 S2 ms e2 l2 s2 rz h2 => ?_
  rw [e2] at h
  refine h _ H2 G2 l2 (fun p => ?_) rz h2
  rw [show purs (.cons a ces) = (pur a && purs ces) from rfl, Bool.and_eq_true] at p
  exact s2 p.1 p.2
/-- the values of an argument list -/
theorem pa_nilV : PA X [] (tevs F c1 c0 W .nil) := PA.imp pa_nil fun σ H Q ⟨G, S, T, hs, h⟩ => h [] H G (Gh.le_refl G) (fun _ => Same.rfl') rfl hs
theorem pa_consV {a : CE} {ces : CEs} {es : List Expr} (he : PE X e (tev F c1 c0 W a)) (hr : PA X es (tevs F c1 c0 W ces)) (hs : starEach (e :: es) X.env = (false, eval e X.env) :: starEach es X.env) :
    PA X (e :: es) (tevs F c1 c0 W (.cons a ces)) := by
  refine PA.imp (pa_cons he hr hs) fun σ H Q ⟨G, S, T, hst, h⟩ => ?_
  rw [evs_cons] at h
  have o1 : Out F W G σ T (ev F.PG c1 c0 a S) := by
    cases q : ev F.PG c1 c0 a S with
    | ok m S1 => trivial
    | exc x fs S1 => rw [q] at h; exact h
    | bad => rw [q] at h; exact h
  refine tev_mono (tev_of hst o1) fun x H1 ⟨G1, m, S1, e1, l1, s1, h1⟩ => ?_
  rw [e1] at h
  have h : match (evs F.PG c1 c0 ces S1).bind fun ms S => R.ok (m :: ms) S with
    | .ok ms S' => ∀ vs H' G', G.le G' → (purs (.cons a ces) = true → Same H H') → vs.length = ms.length → Stt F G' H' σ S' (vs.zip ms ++ T) → Q vs H'
    | .exc x fs S' => Xk F W G σ T x fs S'
    | .bad => False := h
  have o2 : Out F W G1 σ ((x, m) :: T) (evs F.PG c1 c0 ces S1) := by
    cases q : evs F.PG c1 c0 ces S1 with
    | ok ms S2 => trivial
    | exc y fs S2 => rw [q] at h; exact Xk.drop (Xk.mono h l1)
    | bad => rw [q] at h; exact h
  refine tevs_mono (tevs_of h1 o2) fun xs H2 ⟨G2, ms, S2, e2, l2, s2, ln, h2⟩ => ?_
  rw [e2] at h
  refine h (x :: xs) H2 G2 (Gh.le_trans l1 l2) (fun p => ?_) (by simp [ln]) ?_
  · rw [show purs (.cons a ces) = (pur a && purs ces) from rfl, Bool.and_eq_true] at p
    exact Same.tr (s1 p.1) (s2 p.2)
  · obtain ⟨L, sl, rp⟩ := h2
    refine ⟨L, sl, ?_⟩
    refine rp.perm ?_
    refine List.Perm.append_left L ?_
    show (xs.zip ms ++ (x, m) :: T).Perm ((x, m) :: (xs.zip ms ++ T))
    exact List.perm_middle
/-- a value is an operand -/
theorem opd_of_val {a : CE} (h : isPk a = false) (he : PE X e (tev F c1 c0 W a)) : PE X e (tevO F c1 c0 W a) := PE.imp he fun σ H Q ⟨G, S, T, hs, z⟩ => by
  refine ⟨G, S, T, hs, ?_⟩
  cases q : ev F.PG c1 c0 a S with
  | ok m S' =>
    rw [q] at z
    intro V H' G' a1 a2 a3
    refine z V H' G' a1 a2 ?_
    rw [if_neg] 
    · exact a3
    · rw [h]; intro y; cases y
  | exc x fs S' => rw [q] at z; exact z
  | bad => rw [q] at z; exact z
end
end Tk
/- Snd3 -/
set_option Elab.async false
set_option linter.all false
set_option maxRecDepth 100000
set_option maxHeartbeats 1000000
namespace Tk
open PySem PySem.Spec PyProof.Rows L2
section
variable {F : Fx} {c1 c0 : CallFn} {W : WX} {G G' : Gh} {H H' : Hp} {σ : L2.St} {S S' : Sg} {T : List (V × M)} {X : Cx} {e e1 : Expr}
/-- an operation on two values, by HandS's reading r -/
def Ok2 (F : Fx) (o : Op) (r : R2) : Prop := ∀ (G : Gh) (H : Hp) (σ : L2.St) (S : Sg) (T : List (V × M)) (x y : V) (ma mb m : M) (f g : List Addr) (Q : VK), Stt F G H σ S T → RM F G H x ma f → RM F G H y mb g →
  doOp F.PG S.ob o [ma, mb] = some m → (∀ V H', Res F G H m V H' → Q V H') → r x y H Q
def Ok1 (F : Fx) (o : Op) (r : V → Hp → VK → Prop) : Prop := ∀ (G : Gh) (H : Hp) (σ : L2.St) (S : Sg) (T : List (V × M)) (x : V) (ma m : M) (f : List Addr) (Q : VK), Stt F G H σ S T → RM F G H x ma f →
  doOp F.PG S.ob o [ma] = some m → (∀ V H', Res F G H m V H' → Q V H') → r x H Q
theorem rm_int {v : V} {i : Int} {f : List Addr} (r : RM F G H v (.val (.int i)) f) : v = .int i := by cases r with | val r => cases r; rfl
theorem rm_bl {v : V} {i : Bool} {f : List Addr} (r : RM F G H v (.val (.bl i)) f) : v = .bl i := by cases r with | val r => cases r; rfl
theorem rm_non {v : V} {f : List Addr} (r : RM F G H v (.val .non) f) : v = .non := by cases r with | val r => cases r; rfl
theorem rm_str {v : V} {s : List Nat} {f : List Addr} (r : RM F G H v (.val (.str s)) f) : v = .str (mkS s) := by cases r with | val r => cases r; rfl
theorem app_mk (x y : List Nat) : (mkS x ++ mkS y : Str) = mkS (x ++ y) := by
  show (⟨x.toArray ++ y.toArray⟩ : Str) = ⟨(x ++ y).toArray⟩
  simp
theorem len_mk (x : List Nat) : (mkS x).length = x.length := by
  show x.toArray.size = _
  simp
theorem line_eq : line = sizeLine := rfl
theorem repds_app : ∀ {vs us : List V} {ds es : List D}, RepDs F.P F.w F.K G H vs ds → RepDs F.P F.w F.K G H us es → RepDs F.P F.w F.K G H (vs ++ us) (ds ++ es)
  | _, _, _, _, .nil, b => b
  | _, _, _, _, .cons a r, b => .cons a (repds_app r b)
theorem asInt_of {m : M} {i : Int} (h : m.asInt = some i) : m = .val (.int i) := by
  unfold M.asInt at h
  split at h <;> cases h
  rfl
theorem asStr_of {m : M} {s : List Nat} (h : m.asStr = some s) : m = .val (.str s) := by
  unfold M.asStr at h
  split at h <;> cases h
  rfl
theorem i2_of {f : Int → Int → Option M} {a b m : M} (h : i2 f a b = some m) : ∃ i j, a = .val (.int i) ∧ b = .val (.int j) ∧ f i j = some m := by
  unfold i2 at h
  split at h
  · rename_i i j h1 h2
    exact ⟨i, j, asInt_of h1, asInt_of h2, h⟩
  · cases h
/-! ### a dict, written or tracked -/
theorem dict_at {pins : List (Addr × Obj)} {s : Shared} {a : Addr} {kvs : List (Key × V)} (I : Inv X pins σ H s) (h : Rd H a (.dK kvs) ∨ KD X.prog X.w X.K a kvs) :
    (a == sysModules) = false ∧ kvs.length ≤ sizeLine ∧ (∃ vs, KV kvs vs ∧ s.heap.DictOf (mixKind X.prog X.w) a vs) ∧ s.TypeIs (.ref a) "dict" := by
  rcases h with h | ⟨h1, h2, _, vs, h3, h4⟩
  · obtain ⟨z, hd, vs, rel, dd⟩ := dk_rd I.hok h
    exact ⟨hd, z, ⟨vs, rel, dd⟩, dd.typeIs⟩
  · have dd := h4 s.heap I.kIn
    exact ⟨h1, h2, ⟨vs, h3, dd⟩, dd.typeIs⟩
def rDIn (X : Cx) (neg : Bool) : R2 := fun x y H Q => ∃ a kvs k, y = .ref a ∧ x = kV k ∧ (Rd H a (.dK kvs) ∨ KD X.prog X.w X.K a kvs) ∧ Q (.bl (if neg then !(L2.valV kvs k).isSome else (L2.valV kvs k).isSome)) H
theorem op_dIn : OpR X (compareOp .In) (rDIn X false) := by
  intro pins s σ H x y v u Q I rx ry h
  obtain ⟨a, kvs, k, rfl, rfl, hd, q⟩ := h
  cases ry
  obtain ⟨h1, h2, ⟨vs, rel, dd⟩, ht⟩ := dict_at I hd
  refine wpAny_in_of (kV_is rx) h1 dd.mapOf ?_
  rw [← (rel.val k).isSome_eq]
  exact ⟨.bl _, H, I.tok _, rfl, q⟩
theorem op_dNotIn : OpR X (compareOp .NotIn) (rDIn X true) := by
  intro pins s σ H x y v u Q I rx ry h
  obtain ⟨a, kvs, k, rfl, rfl, hd, q⟩ := h
  cases ry
  obtain ⟨h1, h2, ⟨vs, rel, dd⟩, ht⟩ := dict_at I hd
  refine wpAny_notIn_of (kV_is rx) h1 dd.mapOf ?_
  rw [← (rel.val k).isSome_eq]
  exact ⟨.bl _, H, I.tok _, rfl, q⟩
def rIxD (X : Cx) : R2 := fun x y H Q => ∃ a kvs k v, x = .ref a ∧ y = kV k ∧ (Rd H a (.dK kvs) ∨ KD X.prog X.w X.K a kvs) ∧ L2.valV kvs k = some v ∧ Q v H
theorem ix_dict : IxR X (rIxD X) := by
  intro value slice pins s σ H x y v u Q I rx ry h hs
  obtain ⟨a, kvs, k, z, rfl, rfl, hd, e, q⟩ := h
  cases rx
  obtain ⟨h1, h2, ⟨vs, rel, dd⟩, hT⟩ := dict_at I hd
  obtain ⟨w', hw, rw'⟩ := RelO.some_of (v := z) (o := valueAt vs k) (by rw [← e]; exact rel.val k)
  unfold subscriptTail
  refine wpAny_bind ?_
  rw [getitemInPython_of_ne hT.not_modules]
  refine wpAny_bind (wpAny_specialOf hT PySem.F.slot_dict_getitem.lookup ?_)
  have fin : wpAny (model X.prog X.w) X.A (subscripted slice false (.ref a) u) (fun r s₃ => wpAny (model X.prog X.w) X.A (letTemporaryGo value (.ref a) r >>= fun _ => pure r) (EP X pins σ Q) X.xe s₃) X.xe s := by
    rw [hs]
    exact wpAny_operating (wpAny_getItem_of (kV_is ry) dd.mapOf hw (wpAny_bind (wpAny_letTemporaryGo (wpAny_pure ⟨z, H, I.tok _, rw', q⟩))))
  first
    | exact wpAny_pure (wpAny_bind fin)
    | exact wpAny_bind (wpAny_pure (wpAny_bind fin))
    | exact wpAny_bind fin
/-- is True, is False -/
theorem op_isB : OpR X (compareOp .Is) (fun x y H Q => ∃ b, y = .bl b ∧ Q (.bl (decide (x = .bl b))) H) := by
  intro pins s σ H x y v u Q I rx ry h
  obtain ⟨b, rfl, q⟩ := h
  cases (show u = Value.bool b from ry)
  have hp : plainIs v (.bool b) = true := by
    cases x <;> first
      | (cases rx; rfl)
      | (obtain ⟨t, rfl⟩ := rx; rfl)
  by_cases e : x = .bl b
  · subst e
    cases (show v = Value.bool b from rx)
    exact wpAny_is_self hp ⟨.bl true, H, I, rfl, by simpa using q⟩
  · refine wpAny_is_other hp (fun z => ?_) ⟨.bl false, H, I, rfl, by simpa [e] using q⟩
    subst z
    cases x with
    | bl c => exact e (by cases (show Value.bool b = Value.bool c from rx); rfl)
    | non => cases rx
    | int i => obtain ⟨t, z⟩ := rx; cases z
    | str i => obtain ⟨t, z⟩ := rx; cases z
    | byt i => obtain ⟨t, z⟩ := rx; cases z
    | flt i => obtain ⟨t, z⟩ := rx; cases z
    | ref i => cases rx
    | ty i => cases rx
theorem op_isnotB : OpR X (compareOp .IsNot) (fun x y H Q => ∃ b, y = .bl b ∧ Q (.bl (!decide (x = .bl b))) H) := by
  intro pins s σ H x y v u Q I rx ry h
  obtain ⟨b, rfl, q⟩ := h
  cases (show u = Value.bool b from ry)
  have hp : plainIs v (.bool b) = true := by
    cases x <;> first
      | (cases rx; rfl)
      | (obtain ⟨t, rfl⟩ := rx; rfl)
  by_cases e : x = .bl b
  · subst e
    cases (show v = Value.bool b from rx)
    exact wpAny_isNot_self hp ⟨.bl false, H, I, rfl, by simpa using q⟩
  · refine wpAny_isNot_other hp (fun z => ?_) ⟨.bl true, H, I, rfl, by simpa [e] using q⟩
    subst z
    cases x with
    | bl c => exact e (by cases (show Value.bool b = Value.bool c from rx); rfl)
    | non => cases rx
    | int i => obtain ⟨t, z⟩ := rx; cases z
    | str i => obtain ⟨t, z⟩ := rx; cases z
    | byt i => obtain ⟨t, z⟩ := rx; cases z
    | flt i => obtain ⟨t, z⟩ := rx; cases z
    | ref i => cases rx
    | ty i => cases rx
/-! ### each operation of the core is HandS's -/
def rAddA (K : PySem.W.Frag) : R2 := fun x y H Q => ((rI0 fun i j => .int (i + j)) x y H Q ∨ ∃ i j, x = .str i ∧ y = .str j ∧ i.length + j.length ≤ sizeLine ∧ Q (.str (i ++ j)) H) ∨ (rCatA K x y H Q ∨ rCat x y H Q)
theorem op_addA : OpR X (binaryOp .Add) (rAddA X.K) := (op_add.or op_add_str).or (op_catA.or op_cat)
theorem repds_vals : ∀ {vs : List V} {ms : List M} {f : List Addr} {ds : List D}, RepMs F.P F.w F.K G H vs ms f → allVal ms = some ds → RepDs F.P F.w F.K G H vs ds
  | _, _, _, _, .nil, e => by cases e; exact .nil
  | _, _, _, _, .cons (m := m) (ms := ms) a b, e => by
    cases m with
    | val d =>
      cases q : allVal ms with
      | none => rw [allVal, q] at e; cases e
      | some xs =>
        rw [allVal, q] at e; cases e
        cases a with
        | val a => exact .cons a (repds_vals b q)
    | lst _ => cases e
    | dct _ => cases e
theorem lseq_of {v : V} {m : M} {f : List Addr} {ds : List D} (r : RM F G H v m f) (h : m.lseq = some ds) : ∃ a vs, v = .ref a ∧ H a = some (.lst vs) ∧ RepDs F.P F.w F.K G H vs ds := by
  cases m with
  | val d =>
    cases r with
    | val r =>
      cases d <;> first | (cases h; done) | skip
      cases h
      cases r with
      | @lst a vs _ h1 h0 h2 => exact ⟨a, vs, rfl, h0, h2⟩
  | lst ms =>
    cases r with
    | @lst a vs _ f h1 h2 => exact ⟨a, vs, rfl, h1, repds_vals h2 h⟩
  | dct _ => cases h
theorem dseq_of {v : V} {m : M} {f : List Addr} {ds : List D} (r : RM F G H v m f) (h : m.dseq = some ds) : ∃ a vs, v = .ref a ∧ (SqL F.K H a vs ∨ SqT F.K H a vs) ∧ RepDs F.P F.w F.K G H vs ds := by
  cases m with
  | val d =>
    cases r with
    | val r =>
      cases d <;> first | (cases h; done) | skip
      all_goals cases h
      · cases r with
        | @tup a vs _ h1 h2 => exact ⟨a, vs, rfl, .inr (sqt_of h1), h2⟩
      · cases r with
        | @lst a vs _ h1 h0 h2 => exact ⟨a, vs, rfl, .inl (.inl (.inl h0)), h2⟩
      · cases r with
        | @scr a vs _ h1 h2 => exact ⟨a, vs, rfl, .inl (sql_of h1), h2⟩
  | lst ms =>
    cases r with
    | @lst a vs _ f h1 h2 => exact ⟨a, vs, rfl, .inl (.inl (.inl h1)), repds_vals h2 h⟩
  | dct _ => cases h
theorem tup_of {v : V} {f : List Addr} {ds : List D} (r : RM F G H v (.val (.tup ds)) f) : ∃ a vs, v = .ref a ∧ SqT F.K H a vs ∧ RepDs F.P F.w F.K G H vs ds := by
  cases r with
  | val r => cases r with | @tup a vs _ h1 h2 => exact ⟨a, vs, rfl, sqt_of h1, h2⟩
theorem stt_fh (h : Stt F G H σ S T) : ∀ a, G.fz a → H a ≠ none := h.fh
theorem ok_add : Ok2 F .add (rAddA F.K) := by
  intro G H σ S T x y ma mb m f g Q hs ra rb h k
  change doAdd ma mb = some m at h
  unfold doAdd at h
  split at h
  · rename_i i j h1 h2
    obtain rfl := asInt_of h1
    obtain rfl := asInt_of h2
    obtain rfl := rm_int ra
    obtain rfl := rm_int rb
    cases h
    exact .inl (.inl ⟨_, _, rfl, rfl, k _ _ res_int⟩)
  split at h
  · rename_i s t h1 h2
    obtain rfl := asStr_of h1
    obtain rfl := asStr_of h2
    obtain rfl := rm_str ra
    obtain rfl := rm_str rb
    split at h
    · cases h
      refine .inl (.inr ⟨_, _, rfl, rfl, by rw [len_mk, len_mk]; assumption, ?_⟩)
      rw [app_mk]
      exact k _ _ res_str
    · cases h
  split at h
  · obtain ⟨a, vs, rfl, q1, r1⟩ := tup_of ra
    obtain ⟨b, us, rfl, q2, r2⟩ := tup_of rb
    split at h
    · cases h
      rename_i hl
      refine .inr (.inl ⟨a, b, vs, us, rfl, rfl, q1, q2, by rw [r1.len, r2.len]; exact hl, fun e => ?_, fun e1 e2 => ?_, fun _ _ p hp => k _ _ (res_tup (repds_app r1 r2) hp)⟩)
      · subst e
        cases r1
        cases rb with
        | val rb => exact k _ _ (res_val rb)
      · subst e2
        cases r2
        rw [List.append_nil] at k
        cases ra with
        | val ra => exact k _ _ (res_val ra)
    · cases h
  · split at h
    · rename_i xs ys e1 e2
      split at h
      · cases h
        rename_i hl
        obtain ⟨a, vs, rfl, q1, r1⟩ := lseq_of ra e1
        obtain ⟨b, us, rfl, q2, r2⟩ := lseq_of rb e2
        exact .inr (.inr ⟨a, b, vs, us, rfl, rfl, q1, q2, by rw [r1.len, r2.len]; exact hl, fun p hp => k _ _ (res_lst (repds_app r1 r2) hp)⟩)
      · cases h
    · cases h
theorem ok_sub : Ok2 F .sub (rI0 fun i j => .int (i - j)) := by
  intro G H σ S T x y ma mb m f g Q hs ra rb h k
  obtain ⟨i, j, rfl, rfl, e⟩ := i2_of (show i2 _ ma mb = some m from h)
  cases e
  obtain rfl := rm_int ra
  obtain rfl := rm_int rb
  exact ⟨_, _, rfl, rfl, k _ _ res_int⟩
theorem ite_some {p : Prop} [Decidable p] {o : Option M} {m : M} (h : (if p then o else none) = some m) : p ∧ o = some m := by
  split at h
  · exact ⟨by assumption, h⟩
  · cases h
theorem ok_mul : Ok2 F .mul (rI CMul fun i j => .int (i * j)) := by
  intro G H σ S T x y ma mb m f g Q hs ra rb h k
  obtain ⟨i, j, rfl, rfl, e⟩ := i2_of (show i2 _ ma mb = some m from h)
  obtain ⟨hm, e⟩ := ite_some e
  cases e
  obtain rfl := rm_int ra
  obtain rfl := rm_int rb
  refine ⟨_, _, rfl, rfl, ?_, k _ _ res_int⟩
  unfold smul at hm
  rw [Bool.or_eq_true] at hm
  exact hm.imp of_decide_eq_true of_decide_eq_true
theorem ok_fdiv : Ok2 F .fdiv (rI CDiv fun i j => .int (i / j)) := by
  intro G H σ S T x y ma mb m f g Q hs ra rb h k
  obtain ⟨i, j, rfl, rfl, e⟩ := i2_of (show i2 _ ma mb = some m from h)
  obtain ⟨hm, e⟩ := ite_some e
  cases e
  obtain rfl := rm_int ra
  obtain rfl := rm_int rb
  exact ⟨_, _, rfl, rfl, hm, k _ _ res_int⟩
theorem ok_mod : Ok2 F .mod (rI (fun _ j => 0 < j) fun i j => .int (i % j)) := by
  intro G H σ S T x y ma mb m f g Q hs ra rb h k
  obtain ⟨i, j, rfl, rfl, e⟩ := i2_of (show i2 _ ma mb = some m from h)
  obtain ⟨hm, e⟩ := ite_some e
  cases e
  obtain rfl := rm_int ra
  obtain rfl := rm_int rb
  exact ⟨_, _, rfl, rfl, hm, k _ _ res_int⟩
/-! ### comparisons -/
theorem bind_vb {o : Option Bool} {g : Bool → Bool} {m : M} (h : (o.bind fun c => vb (g c)) = some m) : ∃ c, o = some c ∧ m = .val (.bl (g c)) := by
  cases o with
  | none => cases h
  | some c => cases h; exact ⟨c, rfl, rfl⟩
/-- of two values: flat ones by value, else data at any depth -/
def rEqA (K : PySem.W.Frag) (neg : Bool) : R2 := fun x y H Q => (scal x y = true ∧ Q (.bl (if neg then !decide (x = y) else decide (x = y))) H) ∨
  ∃ d e, Dp K H x d ∧ Dp K H y e ∧ SeqAt.shaped d = true ∧ SeqAt.shaped e = true ∧ Q (.bl (if neg then !PyData.eqv d e else PyData.eqv d e)) H
theorem op_eqA (hu : X.A.units + 64 < cLine) : OpR X (compareOp .Eq) (rEqA X.K false) := op_eq.or (op_eqD hu)
theorem op_neA (hu : X.A.units + 64 < cLine) : OpR X (compareOp .NotEq) (rEqA X.K true) := op_ne.or (op_neD hu)
theorem eqD_of {x y : V} {ma mb : M} {f g : List Addr} {c : Bool} (ra : RM F G H x ma f) (rb : RM F G H y mb g) (h : eqD ma.fz mb.fz = some c) :
    (scal x y = true ∧ decide (x = y) = c) ∨ ∃ d e, Dp F.K H x d ∧ Dp F.K H y e ∧ SeqAt.shaped d = true ∧ SeqAt.shaped e = true ∧ PyData.eqv d e = c := by
  by_cases hf : (ma.fz.flat = true ∧ mb.fz.flat = true) ∧ scal (dv ma.fz) (dv mb.fz) = true
  · obtain ⟨⟨f1, f2⟩, sc⟩ := hf
    have e1 := flat_ofM ra f1
    have e2 := flat_ofM rb f2
    subst e1 e2
    refine .inl ⟨sc, ?_⟩
    generalize ma.fz = p at *
    generalize mb.fz = q at *
    cases p <;> first | (cases f1; done) | skip
    all_goals cases q <;> first | (cases f2; done) | (cases sc; done) | skip
    all_goals first
      | (cases h; rfl)
      | (cases h; rw [show ∀ (a b : Bool), a = b → a = b from fun _ _ z => z]; done)
      | skip
    all_goals cases h
    · exact dec_bl
    · exact dec_int
    · rename_i s t
      by_cases e : s = t
      · subst e; simp
      · rw [beq_eq_false_iff_ne.mpr e]
        exact decide_eq_false fun z => e (congrArg unS (V.str.inj z))
  · right
    have gen : (match ma.fz.py, mb.fz.py with | some a, some b => if SeqAt.shaped a && SeqAt.shaped b then some (PyData.eqv a b) else none | _, _ => none) = some c := by
      generalize ma.fz = p at *
      generalize mb.fz = q at *
      cases p <;> cases q <;> first
        | exact h
        | (exact absurd ⟨⟨rfl, rfl⟩, rfl⟩ hf)
    cases q1 : ma.fz.py with
    | none => rw [q1] at gen; cases gen
    | some a =>
      cases q2 : mb.fz.py with
      | none => rw [q1, q2] at gen; cases gen
      | some b =>
        rw [q1, q2] at gen
        by_cases hz : (SeqAt.shaped a && SeqAt.shaped b) = true
        · have gen : (if (SeqAt.shaped a && SeqAt.shaped b) = true then some (PyData.eqv a b) else none) = some c := gen
          rw [if_pos hz] at gen
          cases gen
          rw [Bool.and_eq_true] at hz
          exact ⟨a, b, dp_of ra q1, dp_of rb q2, hz.1, hz.2, rfl⟩
        · have gen : (if (SeqAt.shaped a && SeqAt.shaped b) = true then some (PyData.eqv a b) else none) = some c := gen
          rw [if_neg hz] at gen
          cases gen
theorem ok_eq : Ok2 F .eq (rEqA F.K false) := by
  intro G H σ S T x y ma mb m f g Q hs ra rb h k
  obtain ⟨c, e, rfl⟩ := bind_vb (g := id) (show (eqD ma.fz mb.fz).bind vb = some m from h)
  rcases eqD_of ra rb e with ⟨h1, h2⟩ | ⟨d, e', h1, h2, h3, h4, h5⟩
  · exact .inl ⟨h1, by show Q (.bl (decide (x = y))) H; rw [h2]; exact k _ _ res_bl⟩
  · exact .inr ⟨d, e', h1, h2, h3, h4, by show Q (.bl (PyData.eqv d e')) H; rw [h5]; exact k _ _ res_bl⟩
theorem ok_ne : Ok2 F .ne (rEqA F.K true) := by
  intro G H σ S T x y ma mb m f g Q hs ra rb h k
  obtain ⟨c, e, rfl⟩ := bind_vb (g := Bool.not) (show (eqD ma.fz mb.fz).bind (fun c => vb (!c)) = some m from h)
  rcases eqD_of ra rb e with ⟨h1, h2⟩ | ⟨d, e', h1, h2, h3, h4, h5⟩
  · exact .inl ⟨h1, by show Q (.bl (!decide (x = y))) H; rw [h2]; exact k _ _ res_bl⟩
  · exact .inr ⟨d, e', h1, h2, h3, h4, by show Q (.bl (!PyData.eqv d e')) H; rw [h5]; exact k _ _ res_bl⟩
end
end Tk
/- Snd4 -/
set_option Elab.async false
set_option linter.all false
set_option maxRecDepth 100000
set_option maxHeartbeats 1000000
namespace Tk
open PySem PySem.Spec PyProof.Rows L2
section
variable {F : Fx} {c1 c0 : CallFn} {W : WX} {G G' : Gh} {H H' : Hp} {σ : L2.St} {S S' : Sg} {T : List (V × M)} {X : Cx} {e e1 : Expr}
/-! ### order -/
theorem doLt_of {x y : V} {ma mb : M} {f g : List Addr} {c : Bool} (ra : RM F G H x ma f) (rb : RM F G H y mb g) (h : doLt ma.fz mb.fz = some c) :
    (∃ i j : Int, x = .int i ∧ y = .int j ∧ decide (i < j) = c) ∨ ∃ s t : Str, x = .str s ∧ y = .str t ∧ decide (s.cps.toList < t.cps.toList) = c := by
  unfold doLt at h
  split at h
  · rename_i i j h1 h2
    have e1 := flat_ofM ra (by rw [h1]; rfl)
    have e2 := flat_ofM rb (by rw [h2]; rfl)
    rw [h1] at e1
    rw [h2] at e2
    cases h
    exact .inl ⟨i, j, e1, e2, rfl⟩
  · rename_i s t h1 h2
    have e1 := flat_ofM ra (by rw [h1]; rfl)
    have e2 := flat_ofM rb (by rw [h2]; rfl)
    rw [h1] at e1
    rw [h2] at e2
    cases h
    exact .inr ⟨mkS s, mkS t, e1, e2, rfl⟩
  · cases h
abbrev rCm (p : Int → Int → Bool) (q : List Nat → List Nat → Bool) : R2 := fun x y H Q => (rI0 fun i j => .bl (p i j)) x y H Q ∨ ∃ i j, x = .str i ∧ y = .str j ∧ Q (.bl (q i.cps.toList j.cps.toList)) H
theorem op_ltA : OpR X (compareOp .Lt) (rCm (fun i j => decide (i < j)) fun a b => decide (a < b)) := op_lt.or op_lt_str
theorem op_leA : OpR X (compareOp .LtE) (rCm (fun i j => decide (i ≤ j)) fun a b => !decide (b < a)) := op_le.or op_le_str
theorem op_gtA : OpR X (compareOp .Gt) (rCm (fun i j => decide (j < i)) fun a b => decide (b < a)) := op_gt.or op_gt_str
theorem op_geA : OpR X (compareOp .GtE) (rCm (fun i j => decide (j ≤ i)) fun a b => !decide (a < b)) := op_ge.or op_ge_str
theorem ok_lt : Ok2 F .lt (rCm (fun i j => decide (i < j)) fun a b => decide (a < b)) := by
  intro G H σ S T x y ma mb m f g Q hs ra rb h k
  obtain ⟨c, e, rfl⟩ := bind_vb (g := id) (show (doLt ma.fz mb.fz).bind vb = some m from h)
  rcases doLt_of ra rb e with ⟨i, j, rfl, rfl, q⟩ | ⟨i, j, rfl, rfl, q⟩
  · exact .inl ⟨i, j, rfl, rfl, by dsimp only; rw [q]; exact k _ _ res_bl⟩
  · exact .inr ⟨i, j, rfl, rfl, by dsimp only; rw [q]; exact k _ _ res_bl⟩
theorem ok_gt : Ok2 F .gt (rCm (fun i j => decide (j < i)) fun a b => decide (b < a)) := by
  intro G H σ S T x y ma mb m f g Q hs ra rb h k
  obtain ⟨c, e, rfl⟩ := bind_vb (g := id) (show (doLt mb.fz ma.fz).bind vb = some m from h)
  rcases doLt_of rb ra e with ⟨i, j, rfl, rfl, q⟩ | ⟨i, j, rfl, rfl, q⟩
  · exact .inl ⟨j, i, rfl, rfl, by dsimp only; rw [q]; exact k _ _ res_bl⟩
  · exact .inr ⟨j, i, rfl, rfl, by dsimp only; rw [q]; exact k _ _ res_bl⟩
theorem not_lt_dec {i j : Int} : decide (i ≤ j) = !decide (j < i) := by
  by_cases h : i ≤ j
  · rw [decide_eq_true h, decide_eq_false (by omega)]; rfl
  · rw [decide_eq_false h, decide_eq_true (by omega)]; rfl
theorem ok_le : Ok2 F .le (rCm (fun i j => decide (i ≤ j)) fun a b => !decide (b < a)) := by
  intro G H σ S T x y ma mb m f g Q hs ra rb h k
  obtain ⟨c, e, rfl⟩ := bind_vb (g := Bool.not) (show (doLt mb.fz ma.fz).bind (fun c => vb (!c)) = some m from h)
  rcases doLt_of rb ra e with ⟨i, j, rfl, rfl, q⟩ | ⟨i, j, rfl, rfl, q⟩
  · exact .inl ⟨j, i, rfl, rfl, by dsimp only; rw [not_lt_dec, q]; exact k _ _ res_bl⟩
  · exact .inr ⟨j, i, rfl, rfl, by dsimp only; rw [q]; exact k _ _ res_bl⟩
theorem ok_ge : Ok2 F .ge (rCm (fun i j => decide (j ≤ i)) fun a b => !decide (a < b)) := by
  intro G H σ S T x y ma mb m f g Q hs ra rb h k
  obtain ⟨c, e, rfl⟩ := bind_vb (g := Bool.not) (show (doLt ma.fz mb.fz).bind (fun c => vb (!c)) = some m from h)
  rcases doLt_of ra rb e with ⟨i, j, rfl, rfl, q⟩ | ⟨i, j, rfl, rfl, q⟩
  · exact .inl ⟨i, j, rfl, rfl, by dsimp only; rw [not_lt_dec, q]; exact k _ _ res_bl⟩
  · exact .inr ⟨i, j, rfl, rfl, by dsimp only; rw [q]; exact k _ _ res_bl⟩
/-! ### in -/
def rInA (P : Program) (w : World) (K : PySem.W.Frag) (neg : Bool) : R2 := fun x y H Q =>
  ((∃ i j, x = .str i ∧ y = .str j ∧ Q (.bl (if neg then !Txt.contains j i else Txt.contains j i)) H) ∨ rIn K neg x y H Q) ∨
  ∃ a kvs k, y = .ref a ∧ x = kV k ∧ (Rd H a (.dK kvs) ∨ KD P w K a kvs) ∧ Q (.bl (if neg then !(L2.valV kvs k).isSome else (L2.valV kvs k).isSome)) H
theorem op_inA : OpR X (compareOp .In) (rInA X.prog X.w X.K false) := (op_in_str.or op_in_seq).or op_dIn
theorem op_notInA : OpR X (compareOp .NotIn) (rInA X.prog X.w X.K true) := (op_notin_str.or op_notIn_seq).or op_dNotIn
theorem key_val {k : Key} {v : V} {d : D} (r : RD F G H v d) (h : d = keyD k) : v = kV k := by
  subst h
  have e := flat_of r (by cases k <;> rfl)
  cases k with
  | inl i => exact e
  | inr x => exact e
theorem key_valM {k : Key} {v : V} {m : M} {f : List Addr} (r : RM F G H v m f) (h : m.fz = keyD k) : v = kV k := by
  cases m with
  | val d => cases r with | val r => exact key_val r h
  | lst _ => cases k <;> cases h
  | dct _ => cases k <;> cases h
theorem in_dct {y : V} {ds : List (D × M)} {g : List Addr} {k : Key} (rb : RM F G H y (.dct ds) g) : ∃ a kvs, y = .ref a ∧ Rd H a (.dK kvs) ∧ (L2.valV kvs k).isSome = (getK (keyD k) ds).isSome := by
  cases rb with
  | @dct a kvs _ fp h1 h0 h2 =>
    refine ⟨a, kvs, rfl, .inl h1, ?_⟩
    have := h2.get k
    cases q : getK (keyD k) ds with
    | none => rw [q] at this; rw [this]; rfl
    | some m => rw [q] at this; obtain ⟨v, _, e, _⟩ := this; rw [e]; rfl
theorem in_dctD {y : V} {ds : List (D × D)} {g : List Addr} {k : Key} (rb : RM F G H y (.val (.dct ds)) g) : ∃ a kvs, y = .ref a ∧ (Rd H a (.dK kvs) ∨ KD F.P F.w F.K a kvs) ∧ (L2.valV kvs k).isSome = (getK (keyD k) ds).isSome := by
  cases rb with
  | val rb =>
    cases rb with
    | @dct a kvs _ h1 h2 =>
      refine ⟨a, kvs, rfl, h1.imp And.right id, ?_⟩
      have := h2.get k
      cases q : getK (keyD k) ds with
      | none => rw [q] at this; rw [this]; rfl
      | some m => rw [q] at this; obtain ⟨v, e, _⟩ := this; rw [e]; rfl
theorem all_flatV : ∀ {xs : List D}, xs.all D.flat = true → (xs.map dv).all flatV = true
  | [], _ => rfl
  | x :: xs, h => by
    rw [List.all_cons, Bool.and_eq_true] at h
    rw [List.map_cons, List.all_cons, flatV_dv h.1, all_flatV h.2]; rfl
theorem any_eqV {d : D} (hd : d.flat = true) : ∀ {xs : List D}, xs.all D.flat = true → (xs.map dv).any (fun y => eqV y (dv d)) = xs.any fun y => y.eqF d
  | [], _ => rfl
  | x :: xs, h => by
    rw [List.all_cons, Bool.and_eq_true] at h
    rw [List.map_cons, List.any_cons, List.any_cons, eqV_dv h.1 hd, any_eqV hd h.2]
theorem doIn_of {x y : V} {ma mb : M} {f g : List Addr} {c : Bool} (neg : Bool) {Q : VK} (ra : RM F G H x ma f) (rb : RM F G H y mb g) (h : doIn ma mb = some c) (k : Q (.bl (if neg then !c else c)) H) : rInA F.P F.w F.K neg x y H Q := by
  unfold doIn at h
  split at h
  · rename_i s t h1
    cases h
    have e1 := flat_ofM ra (by rw [h1]; rfl)
    rw [h1] at e1
    obtain rfl := rm_str rb
    exact .inl (.inl ⟨_, _, e1, rfl, k⟩)
  · rename_i kvs
    obtain ⟨hk, h⟩ : ma.fz.isKey = true ∧ some (getK ma.fz kvs).isSome = some c := by
      split at h
      · exact ⟨by assumption, h⟩
      · cases h
    obtain ⟨ky, e1⟩ := isKey_key hk
    obtain ⟨a, us, rfl, h1, h2⟩ := in_dct (k := ky) rb
    cases h
    exact .inr ⟨a, us, ky, rfl, key_valM ra e1, .inl h1, by rw [h2, ← e1]; exact k⟩
  · rename_i kvs
    obtain ⟨hk, h⟩ : ma.fz.isKey = true ∧ some (getK ma.fz kvs).isSome = some c := by
      split at h
      · exact ⟨by assumption, h⟩
      · cases h
    obtain ⟨ky, e1⟩ := isKey_key hk
    obtain ⟨a, us, rfl, h1, h2⟩ := in_dctD (k := ky) rb
    cases h
    exact .inr ⟨a, us, ky, rfl, key_valM ra e1, h1, by rw [h2, ← e1]; exact k⟩
  · split at h
    · rename_i xs e
      obtain ⟨hf, h⟩ : (ma.fz.flat && xs.all D.flat) = true ∧ some (xs.any fun y => y.eqF ma.fz) = some c := by
        split at h
        · exact ⟨by assumption, h⟩
        · cases h
      rw [Bool.and_eq_true] at hf
      obtain ⟨a, vs, rfl, q1, q2⟩ := seq_of rb e
      have e1 := flat_ofM ra hf.1
      have e2 := vws_flat q2 hf.2
      subst e1 e2
      refine .inl (.inr ⟨a, _, rfl, q1, flatV_dv hf.1, all_flatV hf.2, ?_⟩)
      have : inV (dv ma.fz) (xs.map dv) = c := by
        cases h
        exact any_eqV hf.1 hf.2
      rw [this]
      exact k
    · cases h
theorem ok_in : Ok2 F .isin (rInA F.P F.w F.K false) := by
  intro G H σ S T x y ma mb m f g Q hs ra rb h k
  obtain ⟨c, e, rfl⟩ := bind_vb (g := id) (show (doIn ma mb).bind vb = some m from h)
  exact doIn_of false ra rb e (k _ _ res_bl)
theorem ok_notin : Ok2 F .notin (rInA F.P F.w F.K true) := by
  intro G H σ S T x y ma mb m f g Q hs ra rb h k
  obtain ⟨c, e, rfl⟩ := bind_vb (g := Bool.not) (show (doIn ma mb).bind (fun c => vb (!c)) = some m from h)
  exact doIn_of true ra rb e (k _ _ res_bl)
/-! ### is -/
abbrev rIsA (neg : Bool) : R2 := fun x y H Q => (y = .non ∧ Q (.bl (if neg then !decide (x = .non) else decide (x = .non))) H) ∨ ∃ b, y = .bl b ∧ Q (.bl (if neg then !decide (x = .bl b) else decide (x = .bl b))) H
theorem op_isA : OpR X (compareOp .Is) (rIsA false) := op_isN.or op_isB
theorem op_isnotA : OpR X (compareOp .IsNot) (rIsA true) := op_notN.or op_isnotB
theorem is_non {x : V} {m : M} {f : List Addr} (r : RM F G H x m f) : decide (x = .non) = m.isNon := by
  cases r with
  | val r => cases r <;> first | rfl | exact decide_eq_false (fun z => nomatch z)
  | lst _ _ => exact decide_eq_false (fun z => nomatch z)
  | dct _ _ _ => exact decide_eq_false (fun z => nomatch z)
theorem is_bl {x : V} {m : M} {f : List Addr} {b : Bool} (r : RM F G H x m f) : decide (x = .bl b) = m.isBl b := by
  cases r with
  | val r =>
    cases r <;> first
      | exact decide_eq_false (fun z => nomatch z)
      | exact dec_bl
  | lst _ _ => exact decide_eq_false (fun z => nomatch z)
  | dct _ _ _ => exact decide_eq_false (fun z => nomatch z)
theorem doIs_of {x y : V} {ma mb : M} {f g : List Addr} {c : Bool} (neg : Bool) {Q : VK} (ra : RM F G H x ma f) (rb : RM F G H y mb g) (h : doIs ma mb = some c) (k : Q (.bl (if neg then !c else c)) H) : rIsA neg x y H Q := by
  unfold doIs at h
  split at h
  · obtain rfl := rm_non rb
    refine .inl ⟨rfl, ?_⟩
    rw [is_non ra, Option.some.inj h]
    exact k
  · obtain rfl := rm_bl rb
    refine .inr ⟨_, rfl, ?_⟩
    rw [is_bl ra, Option.some.inj h]
    exact k
  · cases h
theorem ok_is : Ok2 F .is_ (rIsA false) := by
  intro G H σ S T x y ma mb m f g Q hs ra rb h k
  obtain ⟨c, e, rfl⟩ := bind_vb (g := id) (show (doIs ma mb).bind vb = some m from h)
  exact doIs_of false ra rb e (k _ _ res_bl)
theorem ok_isnot : Ok2 F .isnot (rIsA true) := by
  intro G H σ S T x y ma mb m f g Q hs ra rb h k
  obtain ⟨c, e, rfl⟩ := bind_vb (g := Bool.not) (show (doIs ma mb).bind (fun c => vb (!c)) = some m from h)
  exact doIs_of true ra rb e (k _ _ res_bl)
/-! ### items -/
def rIxA (P : Program) (w : World) (K : PySem.W.Frag) : R2 := fun x y H Q => rIx K x y H Q ∨ ∃ a kvs k v, x = .ref a ∧ y = kV k ∧ (Rd H a (.dK kvs) ∨ KD P w K a kvs) ∧ L2.valV kvs k = some v ∧ Q v H
theorem ix_all : IxR X (rIxA X.prog X.w X.K) := ix_seq.or ix_dict
theorem repds_get : ∀ {vs : List V} {ds : List D} {i : Nat} {d : D}, RepDs F.P F.w F.K G H vs ds → ds[i]? = some d → ∃ v, vs[i]? = some v ∧ RD F G H v d
  | _, _, 0, _, .cons a _, e => by cases e; exact ⟨_, rfl, a⟩
  | _, _, i + 1, _, .cons _ b, e => by obtain ⟨v, h1, h2⟩ := repds_get (i := i) b e; exact ⟨v, h1, h2⟩
theorem repms_get : ∀ {vs : List V} {ms : List M} {f : List Addr} {i : Nat} {m : M}, RepMs F.P F.w F.K G H vs ms f → ms[i]? = some m → ∃ v g, vs[i]? = some v ∧ RM F G H v m g
  | _, _, _, 0, _, .cons a _, e => by cases e; exact ⟨_, _, rfl, a⟩
  | _, _, _, i + 1, _, .cons _ b, e => by obtain ⟨v, g, h1, h2⟩ := repms_get (i := i) b e; exact ⟨v, g, h1, h2⟩
/-- an item of a place: what HandS asks, and the item itself -/
theorem at_of {x y : V} {ma : M} {kd : D} {m : M} {f : List Addr} {Q : VK} (ra : RM F G H x ma f) (rk : ∀ d, kd = d → RD F G H y d ∨ ∃ mb g, RM F G H y mb g ∧ mb.fz = d) (hl : ∀ s, ma = .val (.str s) → s.length ≤ line) (h : ma.at_ kd = some m) (k : ∀ v g, RM F G H v m g → Q v H) : rIxA F.P F.w F.K x y H Q := by
  have ry : ∃ mb g, RM F G H y mb g ∧ mb.fz = kd := by
    rcases rk kd rfl with z | z
    · exact ⟨.val kd, [], .val z, rfl⟩
    · exact z
  obtain ⟨mb, gb, rb, eb⟩ := ry
  have yi : ∀ i, kd = .int i → y = .int i := fun i e => by
    have := flat_ofM rb (by rw [eb, e]; rfl)
    rw [this, eb, e]; rfl
  unfold M.at_ at h
  split at h
  · rename_i xs i
    obtain ⟨a, vs, rfl, q1, r1⟩ := tup_of ra
    cases e : (seqIx xs.length i).bind fun j => xs[j]? with
    | none => rw [e] at h; cases h
    | some d =>
      rw [e] at h; cases h
      obtain ⟨j, e1, e2⟩ := Option.bind_eq_some_iff.mp e
      obtain ⟨v, h1, h2⟩ := repds_get r1 e2
      refine .inl (.inr (.inl ⟨a, vs, i, v, rfl, yi i rfl, q1, ?_, k v [] (.val h2)⟩))
      show (ixN vs.length i).bind (fun j => vs[j]?) = some v
      rw [r1.len]
      exact Option.bind_eq_some_iff.mpr ⟨j, e1, h1⟩
  · rename_i xs i
    obtain ⟨a, vs, rfl, q1, r1⟩ := lseq_of (ds := xs) ra rfl
    cases e : (seqIx xs.length i).bind fun j => xs[j]? with
    | none => rw [e] at h; cases h
    | some d =>
      rw [e] at h; cases h
      obtain ⟨j, e1, e2⟩ := Option.bind_eq_some_iff.mp e
      obtain ⟨v, h1, h2⟩ := repds_get r1 e2
      refine .inl (.inl ⟨a, vs, i, v, rfl, yi i rfl, .inl (.inl q1), ?_, k v [] (.val h2)⟩)
      show (ixN vs.length i).bind (fun j => vs[j]?) = some v
      rw [r1.len]
      exact Option.bind_eq_some_iff.mpr ⟨j, e1, h1⟩
  · rename_i xs i
    cases ra with
    | val ra =>
      cases ra with
      | @scr a vs _ q1 r1 =>
        cases e : (seqIx xs.length i).bind fun j => xs[j]? with
        | none => rw [e] at h; cases h
        | some d =>
          rw [e] at h; cases h
          obtain ⟨j, e1, e2⟩ := Option.bind_eq_some_iff.mp e
          obtain ⟨v, h1, h2⟩ := repds_get r1 e2
          refine .inl (.inl ⟨a, vs, i, v, rfl, yi i rfl, sql_of q1, ?_, k v [] (.val h2)⟩)
          show (ixN vs.length i).bind (fun j => vs[j]?) = some v
          rw [r1.len]
          exact Option.bind_eq_some_iff.mpr ⟨j, e1, h1⟩
  · rename_i s i
    obtain rfl := rm_str ra
    rw [if_pos (hl s rfl)] at h
    cases e : (seqIx s.length i).bind fun j => s[j]? with
    | none => rw [e] at h; cases h
    | some d =>
      rw [e] at h; cases h
      refine .inl (.inr (.inr ⟨mkS s, i, d, rfl, yi i rfl, by rw [len_mk]; exact hl s rfl, e, k _ [] (.val ?_)⟩))
      exact RepD.str (mkS [d])
  · rename_i ms i
    cases ra with
    | @lst a vs _ f q1 r1 =>
      obtain ⟨j, e1, e2⟩ := Option.bind_eq_some_iff.mp h
      obtain ⟨v, g, h1, h2⟩ := repms_get r1 e2
      refine .inl (.inl ⟨a, vs, i, v, rfl, yi i rfl, .inl (.inl q1), ?_, k v g h2⟩)
      show (ixN vs.length i).bind (fun j => vs[j]?) = some v
      rw [r1.len]
      exact Option.bind_eq_some_iff.mpr ⟨j, e1, h1⟩
  · rename_i kvs
    obtain ⟨hk, h⟩ : kd.isKey = true ∧ getK kd kvs = some m := by
      split at h
      · exact ⟨by assumption, h⟩
      · cases h
    obtain ⟨ky, e1⟩ := isKey_key hk
    subst e1
    cases ra with
    | @dct a us _ f q1 q0 r1 =>
      have := r1.get ky
      rw [h] at this
      obtain ⟨v, g, h1, h2, _⟩ := this
      exact .inr ⟨a, us, ky, v, rfl, key_valM rb eb, .inl (.inl q1), h1, k v g h2⟩
  · rename_i kvs
    obtain ⟨hk, h⟩ : kd.isKey = true ∧ (getK kd kvs).map M.val = some m := by
      split at h
      · exact ⟨by assumption, h⟩
      · cases h
    obtain ⟨ky, e1⟩ := isKey_key hk
    subst e1
    obtain ⟨d, hd, rfl⟩ := Option.map_eq_some_iff.mp h
    cases ra with
    | val ra =>
      cases ra with
      | @dct a us _ q1 r1 =>
        have := r1.get ky
        rw [hd] at this
        obtain ⟨v, h1, h2⟩ := this
        exact .inr ⟨a, us, ky, v, rfl, key_valM rb eb, q1.imp And.right id, h1, k v [] (.val h2)⟩
  · cases h
theorem at_str_len {s : List Nat} {d : D} {m : M} (h : M.at_ (.val (.str s)) d = some m) : s.length ≤ line := by
  cases d with
  | int i =>
    by_cases q : s.length ≤ line
    · exact q
    · have h : (if s.length ≤ line then ((seqIx s.length i).bind fun j => s[j]?).map fun c => M.val (.str [c]) else none) = some m := h
      rw [if_neg q] at h
      cases h
  | _ => cases h
theorem ok_idx : Ok2 F .idx (rIxA F.P F.w F.K) := by
  intro G H σ S T x y ma mb m f g Q hs ra rb h k
  obtain ⟨m1, e1, e2⟩ := Option.bind_eq_some_iff.mp (show (ma.at_ mb.fz).bind M.only = some m from h)
  have hl : ∀ s, ma = .val (.str s) → s.length ≤ line := fun s e => by
    subst e
    exact at_str_len e1
  refine at_of ra (fun d e => .inr ⟨mb, g, rb, e⟩) hl e1 fun v g r => ?_
  cases m1 with
  | val d => cases e2; cases r with | val r => exact k _ _ (res_val r)
  | lst _ => cases e2
  | dct _ => cases e2
end
end Tk
/- Snd5 -/
set_option Elab.async false
set_option linter.all false
set_option maxRecDepth 100000
set_option maxHeartbeats 1000000
namespace Tk
open PySem PySem.Spec PyProof.Rows L2
section
variable {F : Fx} {c1 c0 : CallFn} {W : WX} {G G' : Gh} {H H' : Hp} {σ : L2.St} {S S' : Sg} {T : List (V × M)} {X : Cx} {e e1 : Expr}
/-- an operation on a list of values -/
def OkN (F : Fx) (o : Op) (r : List V → Hp → VK → Prop) : Prop := ∀ (G : Gh) (H : Hp) (σ : L2.St) (S : Sg) (T : List (V × M)) (vs : List V) (ms : List M) (m : M) (Q : VK), Stt F G H σ S T → RZ F G H vs ms →
  doOp F.PG S.ob o ms = some m → (∀ V H', Res F G H m V H' → Q V H') → r vs H Q
theorem d1_of {f : M → Option M} {ms : List M} {m : M} (h : d1 f ms = some m) : ∃ a, ms = [a] ∧ f a = some m := by
  unfold d1 at h
  split at h
  · exact ⟨_, rfl, h⟩
  · cases h
theorem d2_of {f : M → M → Option M} {ms : List M} {m : M} (h : d2 f ms = some m) : ∃ a b, ms = [a, b] ∧ f a b = some m := by
  unfold d2 at h
  split at h
  · exact ⟨_, _, rfl, h⟩
  · cases h
theorem d3_of {f : M → M → M → Option M} {ms : List M} {m : M} (h : d3 f ms = some m) : ∃ a b c, ms = [a, b, c] ∧ f a b c = some m := by
  unfold d3 at h
  split at h
  · exact ⟨_, _, _, rfl, h⟩
  · cases h
/-! ### len, abs, int, tuple, list -/
def rLenA (K : PySem.W.Frag) : List V → Hp → VK → Prop := fun xs H Q => (∃ p ys, xs = [.ref p] ∧ (SqL K H p ys ∨ SqT K H p ys) ∧ Q (.int ys.length) H) ∨ ∃ z, xs = [.str z] ∧ z.length ≤ sizeLine ∧ Q (.int z.length) H
theorem call_lenA : CallR X (.builtin "len") (rLenA X.K) := CallR.or call_len_seq call_len_str
theorem ok_len : OkN F .len (rLenA F.K) := by
  intro G H σ S T vs ms m Q hs rz h k
  have h0 := d1_of (f := doLen) h
  clear h
  obtain ⟨a, rfl, h⟩ := h0
  obtain ⟨x, f, rfl, r⟩ := rz.one
  unfold doLen at h
  split at h
  · rename_i s e
    obtain rfl := asStr_of e
    obtain rfl := rm_str r
    obtain ⟨hl, h⟩ := ite_some h
    cases h
    exact .inr ⟨_, rfl, by rw [len_mk]; exact hl, by rw [len_mk]; exact k _ _ res_int⟩
  · split at h
    · rename_i xs e
      cases h
      obtain ⟨p, us, rfl, q1, q2⟩ := seq_of r e
      exact .inl ⟨p, us, rfl, q1, by rw [q2.len]; exact k _ _ res_int⟩
    · cases h
theorem ok_abs : OkN F .abs (fun xs H Q => ∃ i, xs = [.int i] ∧ Q (.int (if i < 0 then -i else i)) H) := by
  intro G H σ S T vs ms m Q hs rz h k
  have h0 := d1_of (f := fun a => (a.asInt).bind fun i => vi (if i < 0 then -i else i)) h
  clear h
  obtain ⟨a, rfl, h⟩ := h0
  obtain ⟨x, f, rfl, r⟩ := rz.one
  obtain ⟨i, e, h⟩ := Option.bind_eq_some_iff.mp h
  obtain rfl := asInt_of e
  obtain rfl := rm_int r
  cases h
  exact ⟨i, rfl, k _ _ res_int⟩
theorem ok_int : OkN F .int_ (fun xs H Q => (∃ i, xs = [.int i] ∧ Q (.int i) H) ∨ ∃ k, xs = [.bl k] ∧ Q (.int (if k then 1 else 0)) H) := by
  intro G H σ S T vs ms m Q hs rz h k
  have h0 := d1_of (f := doInt) h
  clear h
  obtain ⟨a, rfl, h⟩ := h0
  obtain ⟨x, f, rfl, r⟩ := rz.one
  unfold doInt at h
  split at h
  · cases h
    obtain rfl := rm_int r
    exact .inl ⟨_, rfl, k _ _ res_int⟩
  · cases h
    obtain rfl := rm_bl r
    exact .inr ⟨_, rfl, k _ _ res_int⟩
  · cases h
theorem ok_tuple : OkN F .tuple_ (fun xs H Q => ∃ p ys, xs = [.ref p] ∧ ((SqL F.K H p ys ∧ ∀ l, H l = none → Q (.ref l) (upd H l (.tup ys))) ∨ (SqT F.K H p ys ∧ Q (.ref p) H))) := by
  intro G H σ S T vs ms m Q hs rz h k
  have h0 := d1_of (f := fun m => (m.dseq).map fun xs => .val (.tup xs)) h
  clear h
  obtain ⟨a, rfl, h⟩ := h0
  obtain ⟨x, f, rfl, r⟩ := rz.one
  obtain ⟨xs, e, rfl⟩ := Option.map_eq_some_iff.mp h
  obtain ⟨p, us, rfl, q1, q2⟩ := dseq_of r e
  cases a with
  | val d =>
    cases d <;> first | (cases e; done) | skip
    · cases e
      obtain ⟨p', us', e', q1', q2'⟩ := tup_of r
      cases e'
      cases r with
      | val r => exact ⟨p, us', rfl, .inr ⟨q1', k _ _ (res_val r)⟩⟩
    · rcases q1 with q1 | q1
      · exact ⟨p, us, rfl, .inl ⟨q1, fun l hl => k _ _ (res_tup q2 hl)⟩⟩
      · cases r with
        | val r => cases r with | @lst a vs _ h1 h0 h2 => cases e; exact ⟨p, vs, rfl, .inl ⟨.inl (.inl h0), fun l hl => k _ _ (res_tup h2 hl)⟩⟩
    · cases r with
      | val r => cases r with | @scr a vs _ h1 h2 => cases e; exact ⟨p, vs, rfl, .inl ⟨sql_of h1, fun l hl => k _ _ (res_tup h2 hl)⟩⟩
  | lst ms =>
    cases r with
    | @lst a vs _ f h1 h2 => exact ⟨p, vs, rfl, .inl ⟨.inl (.inl h1), fun l hl => k _ _ (res_tup (repds_vals h2 e) hl)⟩⟩
  | dct _ => cases e
theorem ok_list : OkN F .list_ (fun xs H Q => ∃ p ys, xs = [.ref p] ∧ (SqL F.K H p ys ∨ SqT F.K H p ys) ∧ ∀ l, H l = none → Q (.ref l) (upd H l (.lst ys))) := by
  intro G H σ S T vs ms m Q hs rz h k
  have h0 : ∃ a, ms = [a] ∧ (a.dseq).map (fun xs => M.lst (xs.map M.val)) = some m := d1_of h
  clear h
  obtain ⟨a, rfl, h⟩ := h0
  obtain ⟨x, f, rfl, r⟩ := rz.one
  obtain ⟨xs, e, rfl⟩ := Option.map_eq_some_iff.mp h
  obtain ⟨p, us, rfl, q1, q2⟩ := dseq_of r e
  exact ⟨p, us, rfl, q1, fun l hl => k _ _ (res_lst q2 hl)⟩
theorem ok_neg : Ok1 F .neg (rU fun i => .int (-i)) := by
  intro G H σ S T x ma m f Q hs r h k
  obtain ⟨i, e, h⟩ := Option.bind_eq_some_iff.mp (show (ma.asInt).bind (fun i => vi (-i)) = some m from h)
  obtain rfl := asInt_of e
  obtain rfl := rm_int r
  cases h
  exact ⟨i, rfl, k _ _ res_int⟩
/-! ### texts -/
def dS (s : List Nat) : V := .str (mkS s)
theorem allStr_dv : ∀ {xs : List D} {ss : List (List Nat)}, allStr xs = some ss → xs.all D.flat = true ∧ xs.map dv = ss.map dS
  | [], ss, h => by cases h; exact ⟨rfl, rfl⟩
  | x :: xs, ss, h => by
    cases x <;> first | (cases h; done) | skip
    rename_i s
    have h : (allStr xs).map (s :: ·) = some ss := h
    obtain ⟨ss', e, rfl⟩ := Option.map_eq_some_iff.mp h
    obtain ⟨h1, h2⟩ := allStr_dv e
    exact ⟨by rw [List.all_cons, h1]; rfl, by rw [List.map_cons, List.map_cons, h2]; rfl⟩
theorem ok_join : ∀ (G : Gh) (H : Hp) (σ : L2.St) (S : Sg) (T : List (V × M)) (x : V) (vs : List V) (ms : List M) (m : M) (Q : VK), Stt F G H σ S T → RZ F G H (x :: vs) ms → doOp F.PG S.ob .join_ ms = some m → (∀ V H', Res F G H m V H' → Q V H') →
    (∃ s, x = .str s) ∧ ∃ a p, ∃ ys : List Str, x = .str a ∧ vs = [.ref p] ∧ (SqL F.K H p (ys.map V.str) ∨ SqT F.K H p (ys.map V.str)) ∧ (ys.map (·.length)).sum + ys.length * a.length ≤ 16777216 ∧ Q (.str (Txt.join a ys)) H := by
  intro G H σ S T x vs ms m Q hs rz h k
  have h0 := d2_of (f := doJoin) h
  clear h
  obtain ⟨a, b, rfl, h⟩ := h0
  obtain ⟨y, z, f, g, e, r1, r2⟩ := rz.two
  cases e
  unfold doJoin at h
  split at h
  · rename_i sep xs e1 e2
    obtain rfl := asStr_of e1
    obtain rfl := rm_str r1
    obtain ⟨ss, e3, h⟩ := Option.bind_eq_some_iff.mp h
    obtain ⟨hj, h⟩ := ite_some h
    cases h
    obtain ⟨p, us, rfl, q1, q2⟩ := seq_of r2 e2
    obtain ⟨f1, f2⟩ := allStr_dv e3
    have e4 := vws_flat q2 f1
    rw [f2] at e4
    have e5 : us = (ss.map mkS).map V.str := by rw [e4, List.map_map]; rfl
    subst e5
    refine ⟨⟨_, rfl⟩, _, p, ss.map mkS, rfl, rfl, q1, ?_, k _ _ ?_⟩
    · have hj := of_decide_eq_true hj
      have e6 : (ss.map mkS).map (·.length) = ss.map List.length := by
        rw [List.map_map]
        exact List.map_congr_left fun s _ => len_mk s
      rw [e6, List.length_map, len_mk]
      exact hj
    · have := @res_str F G H (unS (Txt.join (mkS sep) (ss.map mkS)))
      exact this
  · cases h
theorem repds_strs : ∀ (ss : List Str), RepDs F.P F.w F.K G H (ss.map V.str) (ss.map fun s => .str (unS s))
  | [] => .nil
  | s :: ss => .cons (.str s) (repds_strs ss)
theorem ok_split : ∀ (G : Gh) (H : Hp) (σ : L2.St) (S : Sg) (T : List (V × M)) (x : V) (vs : List V) (ms : List M) (m : M) (Q : VK), Stt F G H σ S T → RZ F G H (x :: vs) ms → doOp F.PG S.ob .split_ ms = some m → (∀ V H', Res F G H m V H' → Q V H') →
    (∃ s, x = .str s) ∧ ∃ a b, x = .str a ∧ vs = [.str b] ∧ (b.length == 0) = false ∧ a.length + 2 ≤ sizeLine ∧ rNewStrs (Txt.split a b) H Q := by
  intro G H σ S T x vs ms m Q hs rz h k
  have h0 := d2_of (f := doSplit) h
  clear h
  obtain ⟨a, b, rfl, h⟩ := h0
  obtain ⟨y, z, f, g, e, r1, r2⟩ := rz.two
  cases e
  unfold doSplit at h
  split at h
  · rename_i s t e1 e2
    obtain rfl := asStr_of e1
    obtain rfl := asStr_of e2
    obtain rfl := rm_str r1
    obtain rfl := rm_str r2
    obtain ⟨⟨h1, h2⟩, h⟩ := ite_some h
    cases h
    refine ⟨⟨_, rfl⟩, _, _, rfl, rfl, ?_, by rw [len_mk]; exact h2, fun p hp => k _ _ ?_⟩
    · rw [len_mk]
      cases t with
      | nil => cases h1
      | cons _ _ => rfl
    · have := res_lst (repds_strs (F := F) (G := G) (H := H) (Txt.split (mkS s) (mkS t))) hp
      rw [List.map_map] at this
      exact this
  · cases h
theorem ok_find : ∀ (G : Gh) (H : Hp) (σ : L2.St) (S : Sg) (T : List (V × M)) (x : V) (vs : List V) (ms : List M) (m : M) (Q : VK), Stt F G H σ S T → RZ F G H (x :: vs) ms → doOp F.PG S.ob .find_ ms = some m → (∀ V H', Res F G H m V H' → Q V H') →
    (∃ s, x = .str s) ∧ ∃ (a b : Str) (i : Int), x = .str a ∧ vs = [.str b, .int i] ∧ Q (.int (Txt.find3 a b i)) H := by
  intro G H σ S T x vs ms m Q hs rz h k
  have h0 := d3_of (f := doFind) h
  clear h
  obtain ⟨a, b, c, rfl, h⟩ := h0
  cases rz with
  | cons r1 rz =>
    obtain ⟨y, z, f, g, e, r2, r3⟩ := rz.two
    cases e
    unfold doFind at h
    split at h
    · rename_i s t i e1 e2 e3
      obtain rfl := asStr_of e1
      obtain rfl := asStr_of e2
      obtain rfl := asInt_of e3
      obtain rfl := rm_str r1
      obtain rfl := rm_str r2
      obtain rfl := rm_int r3
      cases h
      exact ⟨⟨_, rfl⟩, _, _, _, rfl, rfl, k _ _ res_int⟩
    · cases h
/-! ### list.index -/
theorem findIdx_of {d : D} (hd : d.flat = true) : ∀ {xs : List D} {i : Nat}, xs.all D.flat = true → (xs.findIdx? fun y => y.eqF d) = some i →
    ∃ z, (xs.map dv)[i]? = some z ∧ eqV z (dv d) = true ∧ ∀ (j : Nat) (z' : V), j < i → (xs.map dv)[j]? = some z' → eqV z' (dv d) = false
  | [], i, _, e => by cases e
  | x :: xs, i, h, e => by
    rw [List.all_cons, Bool.and_eq_true] at h
    rw [List.findIdx?_cons] at e
    by_cases q : x.eqF d = true
    · rw [if_pos q] at e
      cases e
      exact ⟨dv x, rfl, by rw [eqV_dv h.1 hd]; exact q, fun j _ hj => absurd hj (Nat.not_lt_zero _)⟩
    · rw [if_neg q] at e
      obtain ⟨j, e1, rfl⟩ := Option.map_eq_some_iff.mp e
      obtain ⟨z, h1, h2, h3⟩ := findIdx_of hd h.2 e1
      refine ⟨z, h1, h2, fun k z' hk ez => ?_⟩
      cases k with
      | zero => cases ez; rw [eqV_dv h.1 hd]; exact eq_false_of_ne_true q
      | succ k => exact h3 k z' (Nat.lt_of_succ_lt_succ hk) ez
theorem liq_of {v : V} {m : M} {f : List Addr} {ds : List D} (r : RM F G H v m f) (h : m.liq = some ds) : ∃ a vs, v = .ref a ∧ SqL F.K H a vs ∧ Vws F G H vs ds := by
  cases m with
  | val d =>
    cases r with
    | val r =>
      cases d <;> first | (cases h; done) | skip
      · cases h
        cases r with
        | @lst a vs _ h1 h0 h2 => exact ⟨a, vs, rfl, .inl (.inl h0), vws_ds h2⟩
      · cases h
        cases r with
        | @scr a vs _ h1 h2 => exact ⟨a, vs, rfl, sql_of h1, vws_ds h2⟩
  | lst ms =>
    cases h
    cases r with
    | @lst a vs _ f h1 h2 => exact ⟨a, vs, rfl, .inl (.inl h1), vws_ms h2⟩
  | dct _ => cases h
theorem ok_index : ∀ (G : Gh) (H : Hp) (σ : L2.St) (S : Sg) (T : List (V × M)) (x : V) (vs : List V) (ms : List M) (m : M) (Q : VK), Stt F G H σ S T → RZ F G H (x :: vs) ms → doOp F.PG S.ob .index_ ms = some m → (∀ V H', Res F G H m V H' → Q V H') →
    ∃ (a : Addr) (ys : List V) (y : V) (j : Nat) (z : V), x = V.ref a ∧ vs = [y] ∧ SqL F.K H a ys ∧ flatV y = true ∧ ys.all flatV = true ∧ ys[j]? = some z ∧ eqV z y = true ∧ (∀ (m : Nat) (z' : V), m < j → ys[m]? = some z' → eqV z' y = false) ∧ Q (.int (j : Nat)) H := by
  intro G H σ S T x vs ms m Q hs rz h k
  have h0 := d2_of (f := doIndex) h
  clear h
  obtain ⟨a, b, rfl, h⟩ := h0
  obtain ⟨y, z, f, g, e, r1, r2⟩ := rz.two
  cases e
  unfold doIndex at h
  split at h
  · rename_i xs e1
    obtain ⟨hf, h⟩ := ite_some h
    rw [Bool.and_eq_true] at hf
    obtain ⟨i, e2, h⟩ := Option.bind_eq_some_iff.mp h
    cases h
    obtain ⟨p, us, rfl, q1, q2⟩ := liq_of r1 e1
    have e4 := flat_ofM r2 hf.1
    have e5 := vws_flat q2 hf.2
    subst e4 e5
    obtain ⟨z, h1, h2, h3⟩ := findIdx_of hf.1 hf.2 e2
    exact ⟨p, _, _, i, z, rfl, rfl, q1, flatV_dv hf.1, all_flatV hf.2, h1, h2, h3, k _ _ res_int⟩
  · cases h
/-! ### sorted(d) of a dict of texts -/
theorem insS_perm (x : List Nat) : ∀ l, (insS x l).Perm (x :: l)
  | [] => .refl _
  | y :: l => by
    unfold insS
    split
    · exact ((insS_perm x l).cons y).trans (List.Perm.swap x y l)
    · exact .refl _
theorem sortS_perm : ∀ l, (sortS l).Perm l
  | [] => .refl _
  | x :: l => (insS_perm x _).trans ((sortS_perm l).cons x)
theorem ltCps_lt : ∀ a b : List Nat, ltCps a b = decide (a < b)
  | [], [] => rfl
  | [], _ :: _ => by rw [decide_eq_true (List.nil_lt_cons ..)]; rfl
  | _ :: _, [] => by rw [decide_eq_false (List.not_lt_nil _)]; rfl
  | a :: r, b :: t => by
    show (decide (a < b) || (a == b && ltCps r t)) = _
    rw [ltCps_lt r t]
    by_cases h : a < b
    · rw [decide_eq_true h, decide_eq_true (List.cons_lt_cons_iff.mpr (.inl h))]; rfl
    · rw [decide_eq_false h]
      by_cases e : a = b
      · subst e
        rw [beq_self_eq_true]
        by_cases q : r < t
        · rw [decide_eq_true q, decide_eq_true (List.cons_lt_cons_iff.mpr (.inr ⟨rfl, q⟩))]; rfl
        · have nz : ¬ (a :: r < a :: t) := fun z => by
            rcases List.cons_lt_cons_iff.mp z with z | z
            · exact Nat.lt_irrefl _ z
            · exact q z.2
          rw [decide_eq_false q, decide_eq_false nz]
          rfl
      · have nz : ¬ (a :: r < b :: t) := fun z => by
          rcases List.cons_lt_cons_iff.mp z with z | z
          · exact h z
          · exact e z.1
        rw [beq_eq_false_iff_ne.mpr e, decide_eq_false nz]
        rfl
abbrev leS (a b : List Nat) : Prop := ¬ b < a
theorem leS_trans {a b d : List Nat} (h1 : leS a b) (h2 : leS b d) : leS a d := List.not_lt.mpr (List.le_trans (List.not_lt.mp h1) (List.not_lt.mp h2))
theorem insS_sorted (x : List Nat) : ∀ l, l.Pairwise leS → (insS x l).Pairwise leS
  | [], _ => List.pairwise_singleton _ _
  | y :: l, h => by
    unfold insS
    obtain ⟨h1, h2⟩ := List.pairwise_cons.mp h
    by_cases q : ltS y x = true
    · rw [if_pos q]
      refine List.pairwise_cons.mpr ⟨fun z hz => ?_, insS_sorted x l h2⟩
      rcases List.mem_cons.mp ((insS_perm x l).mem_iff.mp hz) with rfl | hz
      · exact fun z => List.lt_irrefl _ (List.lt_trans z (of_decide_eq_true q))
      · exact h1 z hz
    · rw [if_neg q]
      have q' : leS x y := fun z => q (decide_eq_true z)
      exact List.pairwise_cons.mpr ⟨fun z hz => by
        rcases List.mem_cons.mp hz with rfl | hz
        · exact q'
        · exact leS_trans q' (h1 z hz), h⟩
theorem sortS_sorted : ∀ l, (sortS l).Pairwise leS
  | [] => .nil
  | x :: l => insS_sorted x _ (sortS_sorted l)
theorem risingS_pw : ∀ (p : Str) (l : List Str), risingS p l = true → ((p :: l).map unS).Pairwise leS
  | p, [], _ => List.pairwise_singleton _ _
  | p, x :: l, h => by
    have h : (!ltCps x.cps.toList p.cps.toList && risingS x l) = true := h
    rw [Bool.and_eq_true] at h
    have ih := risingS_pw x l h.2
    have h1 : leS (unS p) (unS x) := fun z => by
      have := h.1
      rw [ltCps_lt, decide_eq_true (show x.cps.toList < p.cps.toList from z)] at this
      cases this
    rw [List.map_cons]
    refine List.pairwise_cons.mpr ⟨fun z hz => ?_, ih⟩
    rcases List.mem_cons.mp hz with rfl | hz
    · exact h1
    · exact leS_trans h1 ((List.pairwise_cons.mp ih).1 z hz)
theorem sortedS_pw : ∀ (l : List Str), sortedS l = true → (l.map unS).Pairwise leS
  | [], _ => .nil
  | x :: l, h => risingS_pw x l h
theorem sorted_is {ys : List Str} {ks : List (List Nat)} (p : ys.Perm (ks.map mkS)) (h : sortedS ys = true) : ys = (sortS ks).map mkS := by
  have p2 : (ys.map unS).Perm (sortS ks) := by
    have := p.map unS
    rw [List.map_map] at this
    have e : (ks.map (unS ∘ mkS)) = ks := by
      rw [show (unS ∘ mkS) = id from rfl, List.map_id]
    rw [e] at this
    exact this.trans (sortS_perm ks).symm
  have e := p2.eq_of_pairwise (le := leS) (fun a b _ _ h1 h2 => List.le_antisymm (List.not_lt.mp h1) (List.not_lt.mp h2)) (sortedS_pw ys h) (sortS_sorted ks)
  have := congrArg (List.map mkS) e
  rw [List.map_map, show (mkS ∘ unS) = id from rfl, List.map_id] at this
  exact this
theorem keys_strs : ∀ {ds : List D} {ss : List (List Nat)}, allStr ds = some ss → ds = ss.map D.str
  | [], ss, h => by cases h; rfl
  | x :: xs, ss, h => by
    cases x <;> first | (cases h; done) | skip
    rename_i s
    have h : (allStr xs).map (s :: ·) = some ss := h
    obtain ⟨ss', e, rfl⟩ := Option.map_eq_some_iff.mp h
    rw [keys_strs e]
    rfl
theorem keyD_inj {j k : Key} (h : keyD j = keyD k) : j = k := by
  have := eqK_key j k
  rw [h] at this
  have e := eqK_key k k
  rw [decide_eq_true rfl] at e
  rw [e] at this
  exact of_decide_eq_true this.symm
theorem keys_map : ∀ {ks : List Key} {ss : List (List Nat)}, ks.map keyD = ss.map D.str → ks = (ss.map mkS).map Sum.inr
  | [], [], _ => rfl
  | [], _ :: _, h => by cases h
  | _ :: _, [], h => by cases h
  | k :: ks, s :: ss, h => by
    rw [List.map_cons, List.map_cons] at h
    injection h with h1 h2
    rw [List.map_cons, List.map_cons, ← keys_map h2]
    have : k = Sum.inr (mkS s) := keyD_inj h1
    rw [this]
theorem ok_sorted : OkN F .sorted_ (fun xs H Q => ∃ (a : Addr) (kvs : List (Key × V)) (ks : List Str), xs = [.ref a] ∧ Rd H a (.dK kvs) ∧ kvs.map (·.1) = ks.map Sum.inr ∧ ks.length < 64 ∧ ∀ ys p, ys.Perm ks → sortedS ys = true → H p = none → Q (.ref p) (upd H p (.lst (ys.map V.str)))) := by
  intro G H σ S T vs ms m Q hs rz h k
  have h0 := d1_of (f := doSorted) h
  clear h
  obtain ⟨a, rfl, h⟩ := h0
  obtain ⟨x, f, rfl, r⟩ := rz.one
  unfold doSorted at h
  split at h
  · rename_i kvs
    obtain ⟨ks, e, h⟩ := Option.bind_eq_some_iff.mp h
    obtain ⟨hl, h⟩ := ite_some h
    cases h
    cases r with
    | @dct a us _ f q1 q0 q2 =>
      have e1 := q2.keys
      have e2 := keys_strs e
      have e3 : (us.map (·.1)).map keyD = ks.map D.str := by rw [← e2, e1, List.map_map]; rfl
      refine ⟨a, us, ks.map mkS, rfl, .inl q1, keys_map e3, by rw [List.length_map]; exact hl, fun ys p py hy hp => k _ _ ?_⟩
      have e4 := sorted_is py hy
      subst e4
      have := res_lst (repds_strs (F := F) (G := G) (H := H) ((sortS ks).map mkS)) hp
      rw [List.map_map, List.map_map] at this
      exact this
  · cases h
end
end Tk
/- Snd6 -/
set_option Elab.async false
set_option linter.all false
set_option maxRecDepth 100000
set_option maxHeartbeats 1000000
namespace Tk
open PySem PySem.Spec PyProof.Rows L2
section
variable {F : Fx} {c1 c0 : CallFn} {W : WX} {G G' : Gh} {H H' : Hp} {σ : L2.St} {S S' : Sg} {T : List (V × M)} {X : Cx} {e e1 : Expr}
/-! ### isinstance -/
def tyL : List String := ["NoneType", "bool", "int", "str", "tuple", "list", "dict"]
def tyT : List String := ["bool", "int", "str", "tuple", "list", "dict"]
/-- the classes of the core, as isinstance sees them -/
structure TyTab (F : Fx) : Prop where
  own : ∀ b cl s, F.PG.cl b = some cl → s ∈ tyT → PySem.W.kitOne F.K (.ref (F.c.ca b)) (.type s) = some false
  oo : ∀ b c cl cl', F.PG.cl b = some cl → F.PG.cl c = some cl' → PySem.W.kitOne F.K (.ref (F.c.ca b)) (.ref (F.c.ca c)) = some (F.PG.iso b c)
  bo : ∀ c cl s, s ∈ tyL → F.PG.cl c = some cl → PySem.W.kitOne F.K (.type s) (.ref (F.c.ca c)) = some false
theorem kitB_tab : ∀ u ∈ tyL, ∀ s ∈ tyT, kitB u s = some (s == u || (u == "bool" && s == "int")) := by decide +kernel
theorem rd_list {a : Addr} {vs : List V} (h : Rd H a (.lst vs)) : TyX F.K H (.ref a) (.type "list") := by
  rcases h with h | ⟨o, h⟩
  · exact .base (.lst h)
  · exact .base (.frz h)
theorem rd_tup {a : Addr} {vs : List V} (h : Rd H a (.tup vs)) : TyX F.K H (.ref a) (.type "tuple") := by
  rcases h with h | ⟨o, h⟩
  · exact .base (.tup h)
  · exact .fTuple h
theorem rd_dK {a : Addr} {vs : List (Key × V)} (h : Rd H a (.dK vs)) : TyX F.K H (.ref a) (.type "dict") := by
  rcases h with h | ⟨o, h⟩
  · exact .base (.dK h)
  · exact .fDict h
theorem ty_of {x : V} {m : M} {f : List Addr} {t : Sum String Nat} (hs : Stt F G H σ S T) (r : RM F G H x m f) (h : tyName F.PG S.ob m = some t) :
    (∃ u, t = .inl u ∧ u ∈ tyL ∧ TyX F.K H x (.type u)) ∨ (∃ b cl, t = .inr b ∧ F.PG.cl b = some cl ∧ TyX F.K H x (.ref (F.c.ca b))) := by
  cases m with
  | lst ms =>
    cases h
    cases r with
    | lst h1 _ => exact .inl ⟨_, rfl, by decide, .base (.lst h1)⟩
  | dct ms =>
    cases h
    cases r with
    | dct h1 _ _ => exact .inl ⟨_, rfl, by decide, .base (.dK h1)⟩
  | val d =>
    cases r with
    | val r =>
      cases r with
      | non => cases h; exact .inl ⟨_, rfl, by decide, .base .non⟩
      | bl b => cases h; exact .inl ⟨_, rfl, by decide, .base (.bl b)⟩
      | int i => cases h; exact .inl ⟨_, rfl, by decide, .base (.int i)⟩
      | str x => cases h; exact .inl ⟨_, rfl, by decide, .base (.str x)⟩
      | tup h1 _ =>
        cases h
        refine .inl ⟨_, rfl, by decide, ?_⟩
        rcases h1 with h1 | ⟨o, its, n, h1, h2, _⟩
        · exact rd_tup h1.2
        · exact .kTuple h1 h2
      | lst _ h1 _ => cases h; exact .inl ⟨_, rfl, by decide, .base (.lst h1)⟩
      | scr h1 _ =>
        cases h
        refine .inl ⟨_, rfl, by decide, ?_⟩
        rcases h1 with h1 | ⟨o, its, n, h1, h2, _⟩
        · exact rd_list h1.2
        · exact .kList h1 h2
      | dct h1 _ =>
        cases h
        refine .inl ⟨_, rfl, by decide, ?_⟩
        rcases h1 with h1 | ⟨_, _, ⟨o, h1, h2⟩, _⟩
        · exact rd_dK h1.2
        · exact .kDict h1 h2
      | @obj i a dx h1 =>
        obtain ⟨o, e1, e2⟩ := Option.bind_eq_some_iff.mp (show ((S.ob[i]?).bind fun o => if (F.PG.cl o.cls).isSome then some (.inr o.cls) else none) = some t from h)
        obtain ⟨L, _, rp⟩ := hs
        obtain ⟨a', dx', fs, g, q1, q2, q3, q4⟩ := rp.ob_at e1
        rw [h1] at q1; cases q1
        cases q : F.PG.cl o.cls with
        | none => rw [q] at e2; cases e2
        | some cl =>
          rw [q] at e2; cases e2
          exact .inr ⟨o.cls, cl, rfl, q, .base (.ins q2 q3.cl q3.ha q3.hn q3.htk q3.hm)⟩
/-- a class as a value -/
def clsV (c : Cn) : Sum String Nat → V
  | .inl s => .ty s
  | .inr i => .ref (c.ca i)
theorem ok_isi {ty : Sum String Nat} (tt : TyTab F) (hok : (∃ s, ty = .inl s ∧ s ∈ tyT) ∨ ∃ b cl, ty = .inr b ∧ F.PG.cl b = some cl) : OkN F (.isi [ty]) (fun xs H Q => rIsi F.K (xs ++ [clsV F.c ty]) H Q) := by
  intro G H σ S T vs ms m Q hs rz h k
  have h0 := d1_of (f := fun m => (tyName F.PG S.ob m).bind fun t => vb ([ty].any (isTy F.PG t))) h
  clear h
  obtain ⟨a, rfl, h⟩ := h0
  obtain ⟨x, f, rfl, r⟩ := rz.one
  obtain ⟨t, e, h⟩ := Option.bind_eq_some_iff.mp h
  cases h
  have e1 : [ty].any (isTy F.PG t) = isTy F.PG t ty := by simp
  rw [e1] at k
  have cv : ∃ u, ClsV (clsV F.c ty) u ∧ (match ty with | .inl s => u = .type s | .inr b => u = .ref (F.c.ca b)) := by
    cases ty with
    | inl s => exact ⟨_, .ty s, rfl⟩
    | inr b => exact ⟨_, .own _, rfl⟩
  obtain ⟨u, cu, eu⟩ := cv
  rcases ty_of hs r e with ⟨n, rfl, hn, tx⟩ | ⟨b, cl, rfl, hb, tx⟩
  · refine ⟨x, _, _, u, isTy F.PG (.inl n) ty, rfl, cu, tx, ?_, k _ _ res_bl⟩
    rcases hok with ⟨s, rfl, hS⟩ | ⟨b, cl, rfl, hb⟩
    · cases eu
      exact kit_ty (kitB_tab n hn s hS)
    · cases eu
      exact tt.bo b cl n hn hb
  · refine ⟨x, _, _, u, isTy F.PG (.inr b) ty, rfl, cu, tx, ?_, k _ _ res_bl⟩
    rcases hok with ⟨s, rfl, hS⟩ | ⟨b', cl', rfl, hb'⟩
    · cases eu
      exact tt.own b cl s hb hS
    · cases eu
      exact tt.oo b b' cl cl' hb hb'
/-! ### slices -/
def rSlAll (K : PySem.W.Frag) : V → Option Int → Option Int → Hp → VK → Prop := fun x lo hi H Q => (rSlA K x lo hi H Q ∨ rSlL K x lo hi H Q) ∨ rSlS x lo hi H Q
theorem sl_all : L2.SlR X (rSlAll X.K) := (sl_tupA.or sl_list).or sl_str
theorem cutIx_eq (n d : Nat) (o : Option Int) : cutIx n d o = HT.sIx n d o := by
  cases o <;> rfl
theorem repds_drop : ∀ {vs : List V} {ds : List D} (k : Nat), RepDs F.P F.w F.K G H vs ds → RepDs F.P F.w F.K G H (vs.drop k) (ds.drop k)
  | _, _, 0, h => h
  | _, _, _ + 1, .nil => .nil
  | _, _, k + 1, .cons _ b => repds_drop k b
theorem repds_take : ∀ {vs : List V} {ds : List D} (k : Nat), RepDs F.P F.w F.K G H vs ds → RepDs F.P F.w F.K G H (vs.take k) (ds.take k)
  | _, _, 0, h => .nil
  | _, _, _ + 1, .nil => .nil
  | _, _, k + 1, .cons a b => .cons a (repds_take k b)
theorem repds_cut {vs : List V} {ds : List D} (lo hi : Option Int) (h : RepDs F.P F.w F.K G H vs ds) : RepDs F.P F.w F.K G H (cutV vs lo hi) (cutL ds lo hi) := by
  unfold cutV cutL
  rw [cutIx_eq, cutIx_eq, ← h.len]
  exact repds_take _ (repds_drop _ h)
theorem ok_slc {x : V} {ma m : M} {f : List Addr} {lo hi : Option Int} {Q : VK} (r : RM F G H x ma f) (h : ma.slc lo hi = some m) (k : ∀ V H', Res F G H m V H' → Q V H') : rSlAll F.K x lo hi H Q := by
  cases ma with
  | lst ms =>
    obtain ⟨xs, e, rfl⟩ := Option.map_eq_some_iff.mp (show (allVal ms).map (fun xs => M.lst ((cutL xs lo hi).map .val)) = some m from h)
    cases r with
    | @lst a vs _ f h1 h2 => exact .inl (.inr ⟨a, vs, rfl, .inl (.inl h1), fun p hp => k _ _ (res_lst (repds_cut lo hi (repds_vals h2 e)) hp)⟩)
  | dct _ => cases h
  | val d =>
    cases d <;> first | (cases h; done) | skip
    · rename_i s
      obtain ⟨hl, h⟩ := ite_some (show (if s.length ≤ line then some (M.val (.str (cutL s lo hi))) else none) = some m from h)
      cases h
      obtain rfl := rm_str r
      refine .inr ⟨_, rfl, by rw [len_mk]; exact hl, ?_⟩
      have e : cutS (mkS s) lo hi = mkS (cutL s lo hi) := by
        unfold cutS cutL
        rw [len_mk, cutIx_eq, cutIx_eq]
        rfl
      rw [e]
      exact k _ _ res_str
    · rename_i ds
      cases h
      obtain ⟨a, vs, rfl, q1, q2⟩ := tup_of r
      refine .inl (.inl ⟨a, vs, rfl, q1, fun e => ?_, fun _ p hp => k _ _ (res_tup (repds_cut lo hi q2) hp)⟩)
      have ec : cutL ds lo hi = ds := by
        unfold cutL
        rw [cutIx_eq, cutIx_eq, ← q2.len, e.1, e.2, List.drop_zero, Nat.sub_zero, q2.len, List.take_length]
      rw [ec] at k
      cases r with
      | val r => exact k _ _ (res_val r)
    · rename_i ds
      cases h
      cases r with
      | val r => cases r with | @lst a vs _ h1 h0 h2 => exact .inl (.inr ⟨a, vs, rfl, .inl (.inl h0), fun p hp => k _ _ (res_lst (repds_cut lo hi h2) hp)⟩)
end
end Tk
/- Snd7 -/
set_option Elab.async false
set_option linter.all false
set_option maxRecDepth 100000
set_option maxHeartbeats 1000000
namespace Tk
open PySem PySem.Spec PyProof.Rows L2
/-! ### pure expressions raise nothing -/
section
variable {P : Prog} {c1 c0 : CallFn}
def R.NE {α : Type} (r : R α) : Prop := ∀ x fs S, r ≠ .exc x fs S
theorem NE.ok {α : Type} {a : α} {S : Sg} : (R.ok a S).NE := fun _ _ _ h => by cases h
theorem NE.bad {α : Type} : (R.bad : R α).NE := fun _ _ _ h => by cases h
theorem NE.bind {α β : Type} {r : R α} {f : α → Sg → R β} (h : r.NE) (k : ∀ a S, (f a S).NE) : (r.bind f).NE := by
  cases r with
  | ok a S => exact k a S
  | exc x fs S => exact absurd rfl (h x fs S)
  | bad => exact NE.bad
theorem NE.opt {α : Type} {o : Option α} {S : Sg} : (opt o S).NE := by
  cases o with
  | none => exact NE.bad
  | some a => exact NE.ok
mutual
theorem pur_ne : ∀ (e : CE) (S : Sg), pur e = true → (ev P c1 c0 e S).NE
  | .cst d, S, _ => NE.ok
  | .var i, S, _ => NE.opt
  | .frz i, S, _ => by
    unfold ev
    split
    · exact NE.ok
    · exact NE.bad
  | .mov i, S, _ => by
    unfold ev
    split
    · exact NE.ok
    · exact NE.bad
  | .glo g, S, _ => NE.opt
  | .fld e f, S, h => NE.bind (pur_ne e S h) fun _ _ => NE.opt
  | .pk i, S, _ => NE.opt
  | .pkf e f, S, h => NE.bind (pur_ne e S h) fun _ _ => NE.opt
  | .pki e k, S, h => by
    rw [pur, Bool.and_eq_true] at h
    exact NE.bind (pur_ne e S h.1) fun _ S1 => NE.bind (pur_ne k S1 h.2) fun _ _ => NE.opt
  | .fz e, S, h => NE.bind (pur_ne e S h) fun _ _ => NE.ok
  | .tup es, S, h => NE.bind (purs_ne es S h) fun ms _ => by
      by_cases q : ms.length ≤ line
      · rw [if_pos q]; exact NE.ok
      · rw [if_neg q]; exact NE.bad
  | .lst es, S, h => NE.bind (purs_ne es S h) fun ms _ => by
      by_cases q : ms.length ≤ line
      · rw [if_pos q]; exact NE.ok
      · rw [if_neg q]; exact NE.bad
  | .dnew, S, _ => NE.ok
  | .op o es, S, h => NE.bind (purs_ne es S h) fun _ _ => NE.opt
  | .chn o1 o2 a b c, S, h => by
    rw [pur, Bool.and_eq_true, Bool.and_eq_true] at h
    refine NE.bind (pur_ne a S h.1.1) fun _ S1 => NE.bind (pur_ne b S1 h.1.2) fun _ S2 => ?_
    split
    · exact NE.bind (pur_ne c S2 h.2) fun _ _ => NE.opt
    · exact NE.ok
    · exact NE.bad
  | .and es, S, h => purAnd_ne es S h
  | .or es, S, h => purOr_ne es S h
  | .not e, S, h => NE.bind (pur_ne e S h) fun m _ => by
      split
      · exact NE.ok
      · exact NE.bad
  | .ite c a b, S, h => by
    rw [pur, Bool.and_eq_true, Bool.and_eq_true] at h
    refine NE.bind (pur_ne c S h.1.1) fun m S1 => ?_
    split
    · exact pur_ne a S1 h.1.2
    · exact pur_ne b S1 h.2
    · exact NE.bad
  | .rng _, _, h => by cases h
  | .call _ _, _, h => by cases h
  | .meth _ _ _, _, h => by cases h
  | .make _ _, _, h => by cases h
  | .comp _ _ _ _ _ _, _, h => by cases h
theorem purs_ne : ∀ (es : CEs) (S : Sg), purs es = true → (evs P c1 c0 es S).NE
  | .nil, S, _ => NE.ok
  | .cons e es, S, h => by
    rw [purs, Bool.and_eq_true] at h
    exact NE.bind (pur_ne e S h.1) fun _ S1 => NE.bind (purs_ne es S1 h.2) fun _ _ => NE.ok
theorem purAnd_ne : ∀ (es : CEs) (S : Sg), purs es = true → (evAnd P c1 c0 es S).NE
  | .nil, S, _ => NE.ok
  | .cons e es, S, h => by
    rw [purs, Bool.and_eq_true] at h
    refine NE.bind (pur_ne e S h.1) fun m S1 => ?_
    split
    · exact purAnd_ne es S1 h.2
    · exact NE.ok
    · exact NE.bad
theorem purOr_ne : ∀ (es : CEs) (S : Sg), purs es = true → (evOr P c1 c0 es S).NE
  | .nil, S, _ => NE.ok
  | .cons e es, S, h => by
    rw [purs, Bool.and_eq_true] at h
    refine NE.bind (pur_ne e S h.1) fun m S1 => ?_
    split
    · exact purOr_ne es S1 h.2
    · exact NE.ok
    · exact NE.bad
end
end
/-- the context is the row's -/
structure At (F : Fx) (X : Cx) : Prop where
  P : X.prog = F.P
  w : X.w = F.w
  K : X.K = F.K
  mg : X.mg = F.mg
section
variable {F : Fx} {c1 c0 : CallFn} {W : WX} {G G' : Gh} {H H' : Hp} {σ : L2.St} {S S' : Sg} {T : List (V × M)} {X : Cx} {e e1 a b c : Expr} {ca cb cc : CE} {es : List Expr} {ces : CEs} {pos p p2 apos : Pos}
/-- what a value's transformer asks, as a word -/
def Wants (F : Fx) (W : WX) (G : Gh) (H : Hp) (σ : L2.St) (T : List (V × M)) (pu : Bool) (Q : VK) : R M → Prop
  | .ok m S' => ∀ V H' G', G.le G' → (pu = true → Same H H') → Stt F G' H' σ S' ((V, m) :: T) → Q V H'
  | .exc x fs S' => Xk F W G σ T x fs S'
  | .bad => False
theorem tev_iff {ce : CE} {Q : VK} : tev F c1 c0 W ce σ H Q ↔ ∃ G S T, Stt F G H σ S T ∧ Wants F W G H σ T (pur ce) Q (ev F.PG c1 c0 ce S) := by
  constructor
  · rintro ⟨G, S, T, hs, h⟩
    refine ⟨G, S, T, hs, ?_⟩
    cases q : ev F.PG c1 c0 ce S <;> (rw [q] at h; exact h)
  · rintro ⟨G, S, T, hs, h⟩
    refine ⟨G, S, T, hs, ?_⟩
    cases q : ev F.PG c1 c0 ce S <;> (rw [q] at h; exact h)
theorem op_fin {o : Op} {Q : VK} (h : Wants F W G H σ T (purs ces) Q (ev F.PG c1 c0 (.op o ces) S)) :
    Out F W G σ T (evs F.PG c1 c0 ces S) ∧ ∀ ms S2 G2 H2, evs F.PG c1 c0 ces S = .ok ms S2 → G.le G2 → (purs ces = true → Same H H2) → Stt F G2 H2 σ S2 T →
      ∃ m, doOp F.PG S2.ob o ms = some m ∧ ∀ V H', Res F G2 H2 m V H' → Q V H' := by
  have e : ev F.PG c1 c0 (.op o ces) S = (evs F.PG c1 c0 ces S).bind fun ms S => opt (doOp F.PG S.ob o ms) S := rfl
  rw [e] at h
  cases q : evs F.PG c1 c0 ces S with
  | ok ms S2 =>
    refine ⟨trivial, fun ms' S2' G2 H2 e2 le sm hs2 => ?_⟩
    cases e2
    rw [q] at h
    have h : Wants F W G H σ T (purs ces) Q (opt (doOp F.PG S2.ob o ms) S2) := h
    cases q2 : doOp F.PG S2.ob o ms with
    | none => rw [q2] at h; exact h.elim
    | some m =>
      rw [q2] at h
      refine ⟨m, rfl, fun V H' r => ?_⟩
      obtain ⟨G3, l3, s3⟩ := r.2 σ S2 T hs2
      exact h V H' G3 (Gh.le_trans le l3) (fun z => Same.tr (sm z) r.1) s3
  | exc x fs S2 => rw [q] at h; exact ⟨h, fun _ _ _ _ e2 => by cases e2⟩
  | bad => rw [q] at h; exact h.elim
theorem tevsO_one {Z : List V → Hp → Prop} (h : tevsO F c1 c0 W (.cons cb .nil) σ H Z) : tevO F c1 c0 W cb σ H fun y H2 => Z [y] H2 := by
  obtain ⟨G, S, T, hs, h⟩ := h
  refine ⟨G, S, T, hs, ?_⟩
  rw [evs_cons] at h
  cases q : ev F.PG c1 c0 cb S with
  | ok m S' =>
    rw [q] at h
    have h : ∀ vs H' G', G.le G' → (purs (.cons cb .nil) = true → Same H H') → RZ F G' H' vs [m] → Stt F G' H' σ S' T → Z vs H' := h
    intro V H' G' le sm z
    have sm' : purs (.cons cb .nil) = true → Same H H' := fun z => sm (by rw [purs, Bool.and_eq_true] at z; exact z.1)
    by_cases pk : isPk cb = true
    · rw [if_pos pk] at z
      obtain ⟨z1, f, z2⟩ := z
      exact h [V] H' G' le sm' (.cons z2 .nil) z1
    · rw [if_neg pk] at z
      obtain ⟨f, z2⟩ := z.head
      exact h [V] H' G' le sm' (.cons z2 .nil) z.tail
  | exc x fs S' => rw [q] at h; exact h
  | bad => rw [q] at h; exact h.elim
/-- two operands -/
theorem two_of {o : Op} {r : R2} {Q : VK} (ok : Ok2 F o r) (hpk : isPk ca = true → pur cb = true) (h : tev F c1 c0 W (.op o (.cons ca (.cons cb .nil))) σ H Q) :
    tOp r (tevO F c1 c0 W ca) (tevO F c1 c0 W cb) σ H Q := by
  obtain ⟨G, S, T, hs, h⟩ := tev_iff.mp h
  obtain ⟨ho, fin⟩ := op_fin h
  have hpk' : isPk ca = true → purs (.cons cb .nil) = true := fun z => by rw [purs, hpk z]; rfl
  refine tevO_mono (opd_cons (Z := fun x xs H2 => ∃ y, xs = [y] ∧ r x y H2 Q) hpk' hs ho fun x xs H2 G2 S2 ms e2 l2 s2 rz h2 => ?_) fun x H1 z => tevO_mono (tevsO_one z) fun y H2 z => ?_
  · obtain ⟨m, em, k⟩ := fin ms S2 G2 H2 e2 l2 (fun z => by rw [purs, Bool.and_eq_true] at z; exact s2 z.1 z.2) h2
    have hl : ms.length = 2 := by
      have : ∃ m1 m2, ms = [m1, m2] := by
        rw [evs_cons] at e2
        cases q1 : ev F.PG c1 c0 ca S with
        | ok m1 S3 =>
          rw [q1] at e2
          have e2 : ((evs F.PG c1 c0 (.cons cb .nil) S3).bind fun ms S => R.ok (m1 :: ms) S) = .ok ms S2 := e2
          rw [evs_cons] at e2
          cases q2 : ev F.PG c1 c0 cb S3 with
          | ok m2 S4 => rw [q2] at e2; cases e2; exact ⟨_, _, rfl⟩
          | exc _ _ _ => rw [q2] at e2; cases e2
          | bad => rw [q2] at e2; cases e2
        | exc _ _ _ => rw [q1] at e2; cases e2
        | bad => rw [q1] at e2; cases e2
      obtain ⟨_, _, rfl⟩ := this
      rfl
    match ms, hl with
    | [m1, m2], _ =>
      obtain ⟨v, u, f, g, e3, r1, r2⟩ := rz.two
      injection e3 with e3 e4
      subst e3 e4
      exact ⟨u, rfl, ok G2 H2 σ S2 T _ _ m1 m2 m f g Q h2 r1 r2 em k⟩
  · obtain ⟨y', e, z⟩ := z
    cases e
    exact z
theorem one_of {o : Op} {r : V → Hp → VK → Prop} {Q : VK} (ok : Ok1 F o r) (h : tev F c1 c0 W (.op o (.cons ca .nil)) σ H Q) :
    tUn r (tevO F c1 c0 W ca) σ H Q := by
  obtain ⟨G, S, T, hs, h⟩ := tev_iff.mp h
  obtain ⟨ho, fin⟩ := op_fin h
  refine tevO_mono (tevsO_one (tevsO_of hs ho)) fun x H2 z => ?_
  obtain ⟨G2, ms, S2, e2, l2, s2, rz, h2⟩ := z
  obtain ⟨m, em, k⟩ := fin ms S2 G2 H2 e2 l2 s2 h2
  cases rz with
  | cons r1 rz => cases rz; exact ok G2 H2 σ S2 T x _ m _ Q h2 r1 em k
theorem many_of {o : Op} {r : List V → Hp → VK → Prop} {Q : VK} (ok : OkN F o r) (h : tev F c1 c0 W (.op o ces) σ H Q) : tevsO F c1 c0 W ces σ H fun vs H1 => r vs H1 Q := by
  obtain ⟨G, S, T, hs, h⟩ := tev_iff.mp h
  obtain ⟨ho, fin⟩ := op_fin h
  refine tevsO_mono (tevsO_of hs ho) fun vs H2 z => ?_
  obtain ⟨G2, ms, S2, e2, l2, s2, rz, h2⟩ := z
  obtain ⟨m, em, k⟩ := fin ms S2 G2 H2 e2 l2 s2 h2
  exact ok G2 H2 σ S2 T vs ms m Q h2 rz em k
/-! ### the rules -/
theorem sn_bin {o : Op} {op : Operator} {r : R2} (ho : OpR X (binaryOp op) r) (ok : Ok2 F o r) (ha : PE X a (tevO F c1 c0 W ca)) (hb : PE X b (tevO F c1 c0 W cb)) (hpk : isPk ca = true → pur cb = true) :
    PE X (.BinOp a op b pos) (tev F c1 c0 W (.op o (.cons ca (.cons cb .nil)))) := PE.imp (pe_op ho ha hb) fun _ _ _ h => two_of ok hpk h
theorem sn_cmp {o : Op} {op : CmpOp} {r : R2} (ho : OpR X (compareOp op) r) (ok : Ok2 F o r) (ha : PE X a (tevO F c1 c0 W ca)) (hb : PE X b (tevO F c1 c0 W cb)) (hpk : isPk ca = true → pur cb = true) (hm : behindInMarks op b = false) :
    PE X (.Compare a [op] [b] pos) (tev F c1 c0 W (.op o (.cons ca (.cons cb .nil)))) := PE.imp (pe_cmpR ho ha hb hm) fun _ _ _ h => two_of ok hpk h
/-- a value as a test -/
theorem tet_tev {ce : CE} {Q : Bool → Hp → Prop} (h : tet F c1 c0 W ce σ H Q) : tev F c1 c0 W ce σ H fun x H' => ∃ k, x = .bl k ∧ Q k H' := by
  obtain ⟨G, S, T, hs, h⟩ := h
  refine ⟨G, S, T, hs, ?_⟩
  cases q : ev F.PG c1 c0 ce S with
  | ok m S' =>
    rw [q] at h
    obtain ⟨k, rfl, h⟩ := h
    intro V H' G' le sm z
    obtain ⟨f, r⟩ := z.head
    exact ⟨k, rm_bl r, h H' G' le sm z.tail⟩
  | exc x fs S' => rw [q] at h; exact h
  | bad => rw [q] at h; exact h.elim
theorem sn_cmpT {o : Op} {op : CmpOp} {r : R2} (ho : OpR X (compareOp op) r) (ok : Ok2 F o r) (ha : PE X a (tevO F c1 c0 W ca)) (hb : PE X b (tevO F c1 c0 W cb)) (hpk : isPk ca = true → pur cb = true) (hm : behindInMarks op b = false) :
    PT X (.Compare a [op] [b] pos) (tet F c1 c0 W (.op o (.cons ca (.cons cb .nil)))) := PT.imp (pt_cmpR ho ha hb hm) fun _ _ _ h => two_of ok hpk (tet_tev h)
theorem sn_ix {o : Op} {r : R2} (ho : IxR X r) (ok : Ok2 F o r) (ha : PE X a (tevO F c1 c0 W ca)) (hb : PE X b (tevO F c1 c0 W cb)) (hpk : isPk ca = true → pur cb = true) (hs : PlainIx b) :
    PE X (.Subscript a b pos) (tev F c1 c0 W (.op o (.cons ca (.cons cb .nil)))) := PE.imp (pe_ix ho ha hb hs) fun _ _ _ h => two_of ok hpk h
theorem sn_un {o : Op} {op : UnaryOp} {r : V → Hp → VK → Prop} (ho : UnR X (unaryOp op) r) (ok : Ok1 F o r) (ha : PE X a (tevO F c1 c0 W ca)) :
    PE X (.UnaryOp op a pos) (tev F c1 c0 W (.op o (.cons ca .nil))) := PE.imp (pe_un ho ha) fun _ _ _ h => one_of ok h
/-- a plain value as a test -/
theorem sn_val {ce : CE} (he : PE X e (tev F c1 c0 W ce)) (hi : ∀ whole, isTrue e X.env whole = (do let v ← whole; standAt e.pos; holding [v] (truthy v))) : PT X e (tet F c1 c0 W ce) :=
  PT.imp (pt_val he hi) fun _ _ _ h => tet_tev h
end
end Tk
/- Snd8 -/
set_option Elab.async false
set_option linter.all false
set_option maxRecDepth 100000
set_option maxHeartbeats 1000000
namespace Tk
open PySem PySem.Spec PyProof.Rows L2
section
variable {F : Fx} {c1 c0 : CallFn} {W : WX} {G G' : Gh} {H H' : Hp} {σ : L2.St} {S S' : Sg} {T : List (V × M)} {X : Cx} {e e1 a b c : Expr} {ca cb cc : CE} {es : List Expr} {ces : CEs} {pos p p2 apos : Pos}
theorem Stt.val {v : V} {d : D} (h : Stt F G H σ S T) (r : RD F G H v d) : Stt F G H σ S ((v, .val d) :: T) := let ⟨L, a, b⟩ := h; ⟨L, a, Rp.outT.mpr (b.val r)⟩
theorem Stt.obs (h : Stt F G H σ S T) {i : Nat} {o : Ob} (e : S.ob[i]? = some o) : ∃ a dx fs g, G.ob[i]? = some (a, dx) ∧ H a = some (.ins (F.c.ca o.cls) dx fs) ∧ ClX F.K (F.c.ca o.cls) ∧ RepF F.P F.w F.K F.c G H (F.c.ca o.cls) fs o.fs g := let ⟨_, _, b⟩ := h; b.ob_at e
/-- a value laid at the front is frozen -/
theorem Stt.freeze {v : V} {m : M} (h : Stt F G H σ S ((v, m) :: T)) : ∃ G', G.le G' ∧ Stt F G' H σ S ((v, .val m.fz) :: T) := by
  obtain ⟨L, a, b⟩ := h
  obtain ⟨G', le, r⟩ := (Rp.outT.mp b).freeze
  exact ⟨G', le, L, a, Rp.outT.mpr r⟩
/-- what a slot holds -/
theorem Stt.slot (h : Stt F G H σ S T) {i : Nat} {m : M} (e : S.sl[i]?.join = some m) : ∃ v f, σ[i]? = some (some v) ∧ RM F G H v m f := by
  obtain ⟨L, a, b⟩ := h
  obtain ⟨v, l1, l2, h1, h2, _, _⟩ := a.get e
  subst h2
  obtain ⟨f, r⟩ := (Rp.out.mp b).head
  exact ⟨v, f, h1, r⟩
theorem sn_cst {d : D} {v : V} (he : PE X e (tC v)) (r : ∀ G H, RD F G H v d) : PE X e (tev F c1 c0 W (.cst d)) :=
  PE.imp he fun σ H Q ⟨G, S, T, hs, h⟩ => h v H G (Gh.le_refl G) (fun _ => Same.rfl') (hs.val (r G H))
theorem sn_glo {g : Nat} (he : ∀ d, F.PG.gl g = some d → ∃ v, PE X e (tC v) ∧ ∀ G H, RD F G H v d) (hn : F.PG.gl g ≠ none) : PE X e (tev F c1 c0 W (.glo g)) := by
  cases q : F.PG.gl g with
  | none => exact absurd q hn
  | some d =>
    obtain ⟨v, he, r⟩ := he d q
    refine PE.imp he fun σ H Q ⟨G, S, T, hs, h⟩ => ?_
    have h : match opt ((F.PG.gl g).map M.val) S with
      | .ok m S' => ∀ V H' G', G.le G' → (pur (.glo g) = true → Same H H') → Stt F G' H' σ S' ((V, m) :: T) → Q V H'
      | .exc x fs S' => Xk F W G σ T x fs S'
      | .bad => False := h
    rw [q] at h
    exact h v H G (Gh.le_refl G) (fun _ => Same.rfl') (hs.val (r G H))
theorem sn_var {i : Nat} (he : PE X e (tVar i)) : PE X e (tev F c1 c0 W (.var i)) := by
  refine PE.imp he fun σ H Q ⟨G, S, T, hs, h⟩ => ?_
  have h : match opt ((S.sl[i]?.join).bind M.only) S with
      | .ok m S' => ∀ V H' G', G.le G' → (pur (.var i) = true → Same H H') → Stt F G' H' σ S' ((V, m) :: T) → Q V H'
      | .exc x fs S' => Xk F W G σ T x fs S'
      | .bad => False := h
  cases q : S.sl[i]?.join with
  | none => rw [q] at h; exact h.elim
  | some m =>
    rw [q] at h
    obtain ⟨v, f, e1, r⟩ := hs.slot q
    cases m with
    | val d => cases r with | val r => exact ⟨v, e1, h v H G (Gh.le_refl G) (fun _ => Same.rfl') (hs.val r)⟩
    | lst _ => exact h.elim
    | dct _ => exact h.elim
theorem sn_frz {i : Nat} (he : PE X e (tVar i)) : PE X e (tev F c1 c0 W (.frz i)) := by
  refine PE.imp he fun σ H Q ⟨G, S, T, hs, h⟩ => ?_
  have h : match (match S.sl[i]?.join with | some m => R.ok (M.val m.fz) ⟨setSl S.sl i (.val m.fz), S.ob⟩ | none => R.bad) with
      | .ok m S' => ∀ V H' G', G.le G' → (pur (.frz i) = true → Same H H') → Stt F G' H' σ S' ((V, m) :: T) → Q V H'
      | .exc x fs S' => Xk F W G σ T x fs S'
      | .bad => False := h
  cases q : S.sl[i]?.join with
  | none => rw [q] at h; exact h.elim
  | some m =>
    rw [q] at h
    obtain ⟨L, sl, rp⟩ := hs
    obtain ⟨v, l1, l2, h1, h2, h3, _⟩ := sl.get q
    subst h2
    obtain ⟨G', le, r⟩ := (Rp.out.mp rp).freeze
    refine ⟨v, h1, h v H G' le (fun _ => Same.rfl') ⟨_, h3 (.val m.fz), ?_⟩⟩
    obtain ⟨f, rv⟩ := r.head
    cases rv with
    | val rv => exact Rp.outT.mpr ((Rp.out.mpr r).val rv)
theorem sn_mov {i : Nat} (he : PE X e (tVar i)) : PE X e (tev F c1 c0 W (.mov i)) := by
  refine PE.imp he fun σ H Q ⟨G, S, T, hs, h⟩ => ?_
  have h : match (match S.sl[i]?.join with | some m => R.ok m ⟨S.sl.set i none, S.ob⟩ | none => R.bad) with
      | .ok m S' => ∀ V H' G', G.le G' → (pur (.mov i) = true → Same H H') → Stt F G' H' σ S' ((V, m) :: T) → Q V H'
      | .exc x fs S' => Xk F W G σ T x fs S'
      | .bad => False := h
  cases q : S.sl[i]?.join with
  | none => rw [q] at h; exact h.elim
  | some m =>
    rw [q] at h
    obtain ⟨L, sl, rp⟩ := hs
    obtain ⟨v, l1, l2, h1, h2, _, h4⟩ := sl.get q
    subst h2
    exact ⟨v, h1, h v H G (Gh.le_refl G) (fun _ => Same.rfl') ⟨_, h4, Rp.outT.mpr (Rp.out.mp rp)⟩⟩
theorem so_pk {i : Nat} (he : PE X e (tVar i)) : PE X e (tevO F c1 c0 W (.pk i)) := by
  refine PE.imp he fun σ H Q ⟨G, S, T, hs, h⟩ => ?_
  have h : match opt (S.sl[i]?.join) S with
      | .ok m S' => ∀ V H' G', G.le G' → (pur (.pk i) = true → Same H H') → (if isPk (.pk i) = true then Stt F G' H' σ S' T ∧ ∃ f, RepM F.P F.w F.K G' H' V m f else Stt F G' H' σ S' ((V, m) :: T)) → Q V H'
      | .exc x fs S' => Xk F W G σ T x fs S'
      | .bad => False := h
  cases q : S.sl[i]?.join with
  | none => rw [q] at h; exact h.elim
  | some m =>
    rw [q] at h
    obtain ⟨v, f, e1, r⟩ := hs.slot q
    exact ⟨v, e1, h v H G (Gh.le_refl G) (fun _ => Same.rfl') ⟨hs, f, r⟩⟩
/-- what an evaluation of a part leaves -/
theorem out_bind {α β : Type} {r : R α} {f : α → Sg → R β} (h : Out F W G σ T (r.bind f)) : Out F W G σ T r := by
  cases r with
  | ok a S => trivial
  | exc x fs S => exact h
  | bad => exact h.elim
theorem field_of {d : M} {m : M} {v : V} {f : Nat} {g : List Addr} (hs : Stt F G H σ S T) (r : RM F G H v d g) (h : fieldOf S.ob d f = some m) :
    ∃ a C dx fs u k, v = .ref a ∧ H a = some (.ins C dx fs) ∧ Cls F.K C ∧ NoAttr F.K C (F.c.nm f) ∧ fs.lookup (F.c.nm f) = some u ∧ RM F G H u m k := by
  cases d with
  | val d =>
    cases d <;> first | (cases h; done) | skip
    rename_i i
    obtain ⟨o, e1, e2⟩ := Option.bind_eq_some_iff.mp (show ((S.ob[i]?).bind fun o => getF f o.fs) = some m from h)
    cases r with
    | val r =>
      cases r with
      | @obj _ a dx h1 =>
        obtain ⟨a', dx', fs, g', q1, q2, q3, q4⟩ := hs.obs e1
        rw [h1] at q1; cases q1
        obtain ⟨na, u, k, _, z1, z2, _⟩ := q4.focus F.inj e2
        exact ⟨a, _, dx, fs, u, k, rfl, q2, q3.cl, na, z1, z2⟩
  | lst _ => cases h
  | dct _ => cases h
theorem sn_fld {f : Nat} (he : PE X e (tev F c1 c0 W ca)) (hK : X.K = F.K) (hb : attributeBase e (F.c.nm f) X.env (eval e X.env) = eval e X.env) : PE X (.Attribute e (F.c.nm f) pos) (tev F c1 c0 W (.fld ca f)) := by
  refine PE.imp (pe_fld he hb) fun σ H Q ⟨G, S, T, hs, h⟩ => ?_
  have h : match (ev F.PG c1 c0 ca S).bind fun m S => opt ((fieldOf S.ob m f).bind M.only) S with
      | .ok m S' => ∀ V H' G', G.le G' → (pur ca = true → Same H H') → Stt F G' H' σ S' ((V, m) :: T) → Q V H'
      | .exc x fs S' => Xk F W G σ T x fs S'
      | .bad => False := h
  have o1 : Out F W G σ T (ev F.PG c1 c0 ca S) := by
    cases q : ev F.PG c1 c0 ca S with
    | ok m S1 => trivial
    | exc x fs S1 => rw [q] at h; exact h
    | bad => rw [q] at h; exact h
  refine tev_mono (tev_of hs o1) fun x H1 ⟨G1, m, S1, e1, l1, s1, h1⟩ => ?_
  rw [e1] at h
  have h : match opt ((fieldOf S1.ob m f).bind M.only) S1 with
      | .ok m S' => ∀ V H' G', G.le G' → (pur ca = true → Same H H') → Stt F G' H' σ S' ((V, m) :: T) → Q V H'
      | .exc x fs S' => Xk F W G σ T x fs S'
      | .bad => False := h
  cases q : fieldOf S1.ob m f with
  | none => rw [q] at h; exact h.elim
  | some m1 =>
    rw [q] at h
    obtain ⟨g, r⟩ := h1.head
    obtain ⟨a, C, dx, fs, u, k, rfl, z1, z2, z3, z4, z5⟩ := field_of h1 r q
    rw [hK]
    cases m1 with
    | val d =>
      cases z5 with
      | val z5 => exact ⟨a, C, dx, fs, u, rfl, z1, z2, z3, z4, h u H1 G1 l1 s1 (h1.tail.val z5)⟩
    | lst _ => exact h.elim
    | dct _ => exact h.elim
theorem so_pkf {f : Nat} (he : PE X e (tev F c1 c0 W ca)) (hK : X.K = F.K) (hb : attributeBase e (F.c.nm f) X.env (eval e X.env) = eval e X.env) : PE X (.Attribute e (F.c.nm f) pos) (tevO F c1 c0 W (.pkf ca f)) := by
  refine PE.imp (pe_fld he hb) fun σ H Q ⟨G, S, T, hs, h⟩ => ?_
  have h : match (ev F.PG c1 c0 ca S).bind fun m S => opt (fieldOf S.ob m f) S with
      | .ok m S' => ∀ V H' G', G.le G' → (pur ca = true → Same H H') → (Stt F G' H' σ S' T ∧ ∃ f, RepM F.P F.w F.K G' H' V m f) → Q V H'
      | .exc x fs S' => Xk F W G σ T x fs S'
      | .bad => False := h
  have o1 : Out F W G σ T (ev F.PG c1 c0 ca S) := by
    cases q : ev F.PG c1 c0 ca S with
    | ok m S1 => trivial
    | exc x fs S1 => rw [q] at h; exact h
    | bad => rw [q] at h; exact h
  refine tev_mono (tev_of hs o1) fun x H1 ⟨G1, m, S1, e1, l1, s1, h1⟩ => ?_
  rw [e1] at h
  have h : match opt (fieldOf S1.ob m f) S1 with
      | .ok m S' => ∀ V H' G', G.le G' → (pur ca = true → Same H H') → (Stt F G' H' σ S' T ∧ ∃ f, RepM F.P F.w F.K G' H' V m f) → Q V H'
      | .exc x fs S' => Xk F W G σ T x fs S'
      | .bad => False := h
  cases q : fieldOf S1.ob m f with
  | none => rw [q] at h; exact h.elim
  | some m1 =>
    rw [q] at h
    obtain ⟨g, r⟩ := h1.head
    obtain ⟨a, C, dx, fs, u, k, rfl, z1, z2, z3, z4, z5⟩ := field_of h1 r q
    rw [hK]
    exact ⟨a, C, dx, fs, u, rfl, z1, z2, z3, z4, h u H1 G1 l1 s1 ⟨h1.tail, k, z5⟩⟩
/-- two operands, any end -/
theorem two_opd {Q : V → V → Hp → Prop} (hpk : isPk ca = true → pur cb = true) (hs : Stt F G H σ S T) (ho : Out F W G σ T ((ev F.PG c1 c0 ca S).bind fun m S => (ev F.PG c1 c0 cb S).bind fun d S => R.ok [m, d] S))
    (k : ∀ x y H2 G2 S2 m1 m2 f g, (ev F.PG c1 c0 ca S).bind (fun m S => (ev F.PG c1 c0 cb S).bind fun d S => R.ok [m, d] S) = .ok [m1, m2] S2 → G.le G2 → (pur ca = true → pur cb = true → Same H H2) → RM F G2 H2 x m1 f → RM F G2 H2 y m2 g → Stt F G2 H2 σ S2 T → Q x y H2) :
    tOp (fun x y H _ => Q x y H) (tevO F c1 c0 W ca) (tevO F c1 c0 W cb) σ H (fun _ _ => True) := by
  have hpk' : isPk ca = true → purs (.cons cb .nil) = true := fun z => by rw [purs, hpk z]; rfl
  have ee : evs F.PG c1 c0 (.cons ca (.cons cb .nil)) S = (ev F.PG c1 c0 ca S).bind fun m S => (ev F.PG c1 c0 cb S).bind fun d S => R.ok [m, d] S := by
    rw [evs_cons]
    congr 1
    funext m S1
    rw [evs_cons]
    cases ev F.PG c1 c0 cb S1 <;> rfl
  rw [← ee] at ho
  refine tevO_mono (opd_cons (Z := fun x xs H2 => ∃ y, xs = [y] ∧ Q x y H2) hpk' hs ho fun x xs H2 G2 S2 ms e2 l2 s2 rz h2 => ?_) fun x H1 z => tevO_mono (tevsO_one z) fun y H2 z => ?_
  · rw [ee] at e2
    have : ∃ m1 m2, ms = [m1, m2] := by
      cases q1 : ev F.PG c1 c0 ca S with
      | ok m1 S3 =>
        rw [q1] at e2
        have e2 : ((ev F.PG c1 c0 cb S3).bind fun d S => R.ok [m1, d] S) = .ok ms S2 := e2
        cases q2 : ev F.PG c1 c0 cb S3 with
        | ok m2 S4 => rw [q2] at e2; cases e2; exact ⟨_, _, rfl⟩
        | exc _ _ _ => rw [q2] at e2; cases e2
        | bad => rw [q2] at e2; cases e2
      | exc _ _ _ => rw [q1] at e2; cases e2
      | bad => rw [q1] at e2; cases e2
    obtain ⟨m1, m2, rfl⟩ := this
    obtain ⟨v, u, f, g, e3, r1, r2⟩ := rz.two
    injection e3 with e3 e4
    subst e3 e4
    exact ⟨u, rfl, k _ _ H2 G2 S2 m1 m2 f g e2 l2 (fun z1 z2 => s2 z1 (by rw [purs, z2]; rfl)) r1 r2 h2⟩
  · obtain ⟨y', e, z⟩ := z
    cases e
    exact z
theorem so_pki (hP : At F X) (ha : PE X a (tevO F c1 c0 W ca)) (hb : PE X b (tevO F c1 c0 W cb)) (hpk : isPk ca = true → pur cb = true) (hs : PlainIx b) :
    PE X (.Subscript a b pos) (tevO F c1 c0 W (.pki ca cb)) := by
  have hix : IxR X (rIxA F.P F.w F.K) := by
    have := @ix_all X
    rwa [hP.P, hP.w, hP.K] at this
  refine PE.imp (pe_ix hix ha hb hs) fun σ H Q ⟨G, S, T, hs, h⟩ => ?_
  have h : match (ev F.PG c1 c0 ca S).bind fun m S => (ev F.PG c1 c0 cb S).bind fun d S => opt (m.at_ d.fz) S with
      | .ok m S' => ∀ V H' G', G.le G' → (pur (.pki ca cb) = true → Same H H') → (Stt F G' H' σ S' T ∧ ∃ f, RepM F.P F.w F.K G' H' V m f) → Q V H'
      | .exc x fs S' => Xk F W G σ T x fs S'
      | .bad => False := h
  refine two_opd hpk hs ?_ fun x y H2 G2 S2 m1 m2 f g e2 l2 s2 r1 r2 h2 => ?_
  · cases q1 : ev F.PG c1 c0 ca S with
    | ok m1 S3 =>
      rw [q1] at h
      have h : match (ev F.PG c1 c0 cb S3).bind fun d S => opt (m1.at_ d.fz) S with
        | .ok m S' => ∀ V H' G', G.le G' → (pur (.pki ca cb) = true → Same H H') → (Stt F G' H' σ S' T ∧ ∃ f, RepM F.P F.w F.K G' H' V m f) → Q V H'
        | .exc x fs S' => Xk F W G σ T x fs S'
        | .bad => False := h
      show Out F W G σ T ((ev F.PG c1 c0 cb S3).bind fun d S => R.ok [m1, d] S)
      cases q2 : ev F.PG c1 c0 cb S3 with
      | ok m2 S4 => trivial
      | exc x fs S4 => rw [q2] at h; exact h
      | bad => rw [q2] at h; exact h.elim
    | exc x fs S3 => rw [q1] at h; exact h
    | bad => rw [q1] at h; exact h.elim
  · cases q1 : ev F.PG c1 c0 ca S with
    | ok n1 S3 =>
      rw [q1] at h e2
      have e2 : ((ev F.PG c1 c0 cb S3).bind fun d S => R.ok [n1, d] S) = .ok [m1, m2] S2 := e2
      have h : match (ev F.PG c1 c0 cb S3).bind fun d S => opt (n1.at_ d.fz) S with
        | .ok m S' => ∀ V H' G', G.le G' → (pur (.pki ca cb) = true → Same H H') → (Stt F G' H' σ S' T ∧ ∃ f, RepM F.P F.w F.K G' H' V m f) → Q V H'
        | .exc x fs S' => Xk F W G σ T x fs S'
        | .bad => False := h
      cases q2 : ev F.PG c1 c0 cb S3 with
      | ok n2 S4 =>
        rw [q2] at h e2
        cases e2
        have h : match opt (m1.at_ m2.fz) S2 with
          | .ok m S' => ∀ V H' G', G.le G' → (pur (.pki ca cb) = true → Same H H') → (Stt F G' H' σ S' T ∧ ∃ f, RepM F.P F.w F.K G' H' V m f) → Q V H'
          | .exc x fs S' => Xk F W G σ T x fs S'
          | .bad => False := h
        cases q3 : m1.at_ m2.fz with
        | none => rw [q3] at h; exact h.elim
        | some m =>
          rw [q3] at h
          refine at_of r1 (fun d e => .inr ⟨m2, g, r2, e⟩) (fun s e => ?_) q3 fun v g' r => h v H2 G2 l2 (fun z => ?_) ⟨h2, g', r⟩
          · subst e
            exact at_str_len q3
          · rw [pur, Bool.and_eq_true] at z
            exact s2 z.1 z.2
      | exc _ _ _ => rw [q2] at e2; cases e2
      | bad => rw [q2] at e2; cases e2
    | exc _ _ _ => rw [q1] at e2; cases e2
    | bad => rw [q1] at e2; cases e2
theorem sn_fz (he : PE X e (tev F c1 c0 W ca)) : PE X e (tev F c1 c0 W (.fz ca)) := by
  refine PE.imp he fun σ H Q ⟨G, S, T, hs, h⟩ => ⟨G, S, T, hs, ?_⟩
  have h : match (ev F.PG c1 c0 ca S).bind fun m S => R.ok (M.val m.fz) S with
      | .ok m S' => ∀ V H' G', G.le G' → (pur ca = true → Same H H') → Stt F G' H' σ S' ((V, m) :: T) → Q V H'
      | .exc x fs S' => Xk F W G σ T x fs S'
      | .bad => False := h
  cases q : ev F.PG c1 c0 ca S with
  | ok m S1 =>
    rw [q] at h
    have h : ∀ V H' G', G.le G' → (pur ca = true → Same H H') → Stt F G' H' σ S1 ((V, .val m.fz) :: T) → Q V H' := h
    intro V H' G' le sm z
    obtain ⟨G2, l2, z2⟩ := z.freeze
    exact h V H' G2 (Gh.le_trans le l2) sm z2
  | exc x fs S1 => rw [q] at h; exact h
  | bad => rw [q] at h; exact h
/-! ### tuples, lists, dicts -/
theorem sn_tup {k : Nat} (h : PA X es (tevs F c1 c0 W ces)) : PE X (.Tuple es k pos) (tev F c1 c0 W (.tup ces)) := by
  refine PE.imp (pe_tup h) fun σ H Q ⟨G, S, T, hs, h⟩ => ?_
  have h : match (evs F.PG c1 c0 ces S).bind fun ms S => if ms.length ≤ line then R.ok (M.val (.tup (M.fzs ms))) S else .bad with
      | .ok m S' => ∀ V H' G', G.le G' → (purs ces = true → Same H H') → Stt F G' H' σ S' ((V, m) :: T) → Q V H'
      | .exc x fs S' => Xk F W G σ T x fs S'
      | .bad => False := h
  have o1 : Out F W G σ T (evs F.PG c1 c0 ces S) := by
    cases q : evs F.PG c1 c0 ces S with
    | ok m S1 => trivial
    | exc x fs S1 => rw [q] at h; exact h
    | bad => rw [q] at h; exact h
  refine tevs_mono (tevs_of hs o1) fun vs H1 ⟨G1, ms, S1, e1, l1, s1, ln, h1⟩ => ?_
  rw [e1] at h
  have h : match (if ms.length ≤ line then R.ok (M.val (.tup (M.fzs ms))) S1 else .bad) with
      | .ok m S' => ∀ V H' G', G.le G' → (purs ces = true → Same H H') → Stt F G' H' σ S' ((V, m) :: T) → Q V H'
      | .exc x fs S' => Xk F W G σ T x fs S'
      | .bad => False := h
  by_cases q : ms.length ≤ line
  · rw [if_pos q] at h
    refine ⟨by rw [ln]; exact q, fun p hp => ?_⟩
    obtain ⟨L, sl, rp⟩ := h1
    have rp' : Rp F.P F.w F.K F.c G1 H1 (vs.zip ms ++ (L ++ T)) S1.ob := rp.perm (by
      rw [← List.append_assoc, ← List.append_assoc]
      exact List.Perm.append_right _ List.perm_append_comm)
    obtain ⟨G2, l2, r2, rd⟩ := rp'.freezes ln
    exact h _ _ (G2.more p) (Gh.le_trans (Gh.le_trans l1 l2) (G2.more_le p)) (fun z => Same.tr (s1 z) (Same.upd hp)) ⟨L, sl, Rp.outT.mpr (r2.new_tup rd hp)⟩
  · rw [if_neg q] at h; exact h.elim
theorem sn_lst (h : PA X es (tevs F c1 c0 W ces)) : PE X (.List es pos) (tev F c1 c0 W (.lst ces)) := by
  refine PE.imp (pe_lst h) fun σ H Q ⟨G, S, T, hs, h⟩ => ?_
  have h : match (evs F.PG c1 c0 ces S).bind fun ms S => if ms.length ≤ line then R.ok (M.lst ms) S else .bad with
      | .ok m S' => ∀ V H' G', G.le G' → (purs ces = true → Same H H') → Stt F G' H' σ S' ((V, m) :: T) → Q V H'
      | .exc x fs S' => Xk F W G σ T x fs S'
      | .bad => False := h
  have o1 : Out F W G σ T (evs F.PG c1 c0 ces S) := by
    cases q : evs F.PG c1 c0 ces S with
    | ok m S1 => trivial
    | exc x fs S1 => rw [q] at h; exact h
    | bad => rw [q] at h; exact h
  refine tevs_mono (tevs_of hs o1) fun vs H1 ⟨G1, ms, S1, e1, l1, s1, ln, h1⟩ => ?_
  rw [e1] at h
  have h : match (if ms.length ≤ line then R.ok (M.lst ms) S1 else .bad) with
      | .ok m S' => ∀ V H' G', G.le G' → (purs ces = true → Same H H') → Stt F G' H' σ S' ((V, m) :: T) → Q V H'
      | .exc x fs S' => Xk F W G σ T x fs S'
      | .bad => False := h
  by_cases q : ms.length ≤ line
  · rw [if_pos q] at h
    refine ⟨by rw [ln]; exact q, fun p hp => ?_⟩
    obtain ⟨L, sl, rp⟩ := h1
    have rp' : Rp F.P F.w F.K F.c G1 H1 (vs.zip ms ++ (L ++ T)) S1.ob := rp.perm (by
      rw [← List.append_assoc, ← List.append_assoc]
      exact List.Perm.append_right _ List.perm_append_comm)
    exact h _ _ G1 l1 (fun z => Same.tr (s1 z) (Same.upd hp)) ⟨L, sl, Rp.outT.mpr (rp'.new_lst ln hp)⟩
  · rw [if_neg q] at h; exact h.elim
theorem sn_dnew : PE X (.Dict [] [] pos) (tev F c1 c0 W .dnew) := by
  refine PE.imp pe_dnewK fun σ H Q ⟨G, S, T, hs, h⟩ => fun p hp => ?_
  obtain ⟨L, sl, rp⟩ := hs
  exact h (.ref p) (upd H p (.dK [])) G (Gh.le_refl G) (fun _ => Same.upd hp) ⟨L, sl, Rp.outT.mpr (rp.new_dct hp)⟩
end
end Tk
/- Snd9 -/
set_option Elab.async false
set_option linter.all false
set_option maxRecDepth 100000
set_option maxHeartbeats 1000000
namespace Tk
open PySem PySem.Spec PyProof.Rows L2
section
variable {F : Fx} {c1 c0 : CallFn} {W : WX} {G G' : Gh} {H H' : Hp} {σ : L2.St} {S S' : Sg} {T : List (V × M)} {X : Cx} {e e1 a b c o : Expr} {ca cb cc : CE} {es rest : List Expr} {ces : CEs} {pos p p2 apos : Pos}
/-! ### builtin functions, types, methods -/
theorem sn_callB {op : Op} {id : String} {x : Str} {r : List V → Hp → VK → Prop} (hc : CallR X (.builtin id) r) (ok : OkN F op r) (hg : Gl X x) (hm : X.mg x = none) (hv : bootBuiltins x = some (.builtin id)) (ha : PA X (e :: es) (tevsO F c1 c0 W ces))
    (hn : x ≠ "__name__") (hdb : (x == ("__debug__" : Str)) = false) (he : starEach (e :: es) X.env = (false, eval e X.env) :: starEach es X.env) (hpl : (backTo pos (starEach es X.env)).any (·.1) = false) :
    PE X (.Call (.Name x p) (e :: es) [] pos) (tev F c1 c0 W (.op op ces)) := PE.imp (pe_callB hc hg hm hv ha hn hdb he hpl) fun _ _ _ h => many_of ok h
theorem sn_callTy {op : Op} {Ty : String} {x : Str} {r : List V → Hp → VK → Prop} (hc : CallR X (.type Ty) r) (ok : OkN F op r) (hg : Gl X x) (hm : X.mg x = none) (hv : bootBuiltins x = some (.type Ty)) (ha : PA X (e :: es) (tevsO F c1 c0 W ces))
    (hn : x ≠ "__name__") (hdb : (x == ("__debug__" : Str)) = false) (he : starEach (e :: es) X.env = (false, eval e X.env) :: starEach es X.env) (hpl : (backTo pos (starEach es X.env)).any (·.1) = false) :
    PE X (.Call (.Name x p) (e :: es) [] pos) (tev F c1 c0 W (.op op ces)) := PE.imp (pe_callTy hc hg hm hv ha hn hdb he hpl) fun _ _ _ h => many_of ok h
/-- isinstance(e, t) -/
theorem sn_isi {ty : Sum String Nat} (hP : At F X) (tt : TyTab F) (hok : (∃ s, ty = .inl s ∧ s ∈ tyT) ∨ ∃ b cl, ty = .inr b ∧ F.PG.cl b = some cl) (hg : Gl X "isinstance") (hm : X.mg "isinstance" = none)
    (ha : PE X e (tevO F c1 c0 W ca)) (hb : PE X b (tC (clsV F.c ty))) (he : starEach [e, b] X.env = (false, eval e X.env) :: starEach [b] X.env) (he2 : starEach [b] X.env = (false, eval b X.env) :: starEach [] X.env) (hpl : (backTo pos (starEach [b] X.env)).any (·.1) = false) :
    PE X (.Call (.Name "isinstance" p) [e, b] [] pos) (tev F c1 c0 W (.op (.isi [ty]) (.cons ca .nil))) := by
  have hi : CallR X (.builtin "isinstance") (rIsi F.K) := by
    have := @call_isi X
    rwa [hP.K] at this
  refine PE.imp (pe_callB hi hg hm (by decide +kernel) (pa_cons ha (pa_cons hb pa_nil he2) he) (by decide) (by decide) he hpl) fun σ H Q h => ?_
  have z := many_of (ok_isi tt hok) h
  exact tevO_mono (tevsO_one z) fun y H2 z => z
/-- the first operand with a word of its own, then the others -/
theorem opd_consY {a : CE} {es : CEs} {Y : V → Hp → Prop} {Z : V → List V → Hp → Prop} (hpk : isPk a = true → purs es = true) (hs : Stt F G H σ S T) (ho : Out F W G σ T (evs F.PG c1 c0 (.cons a es) S))
    (kY : ∀ x H1 G1 m S1 f, ev F.PG c1 c0 a S = .ok m S1 → RM F G1 H1 x m f → Y x H1)
    (k : ∀ x xs H2 G2 S2 ms, evs F.PG c1 c0 (.cons a es) S = .ok ms S2 → G.le G2 → (pur a = true → purs es = true → Same H H2) → RZ F G2 H2 (x :: xs) ms → Stt F G2 H2 σ S2 T → Z x xs H2) :
    tevO F c1 c0 W a σ H fun x H1 => Y x H1 ∧ tevsO F c1 c0 W es σ H1 fun xs H2 => Z x xs H2 := by
  rw [evs_cons] at ho
  have o1 : Out F W G σ T (ev F.PG c1 c0 a S) := out_bind ho
  refine tevO_mono (tevO_of hs o1) fun x H1 ⟨G1, m, S1, e1, l1, s1, h1⟩ => ?_
  rw [e1] at ho
  have ho : Out F W G σ T ((evs F.PG c1 c0 es S1).bind fun ms S => R.ok (m :: ms) S) := ho
  by_cases pk : isPk a = true
  · rw [if_pos pk] at h1
    obtain ⟨h1, f, r1⟩ := h1
    have o2 : Out F W G1 σ T (evs F.PG c1 c0 es S1) := by
      cases q : evs F.PG c1 c0 es S1 with
      | ok ms S2 => trivial
      | exc x fs S2 => rw [q] at ho; exact Xk.mono ho l1
      | bad => rw [q] at ho; exact ho
    refine ⟨kY x H1 G1 m S1 f e1 r1, tevsO_mono (tevsO_of h1 o2) fun xs H2 ⟨G2, ms, S2, e2, l2, s2, rz, h2⟩ => ?_⟩
    refine k x xs H2 G2 S2 (m :: ms) (by rw [evs_cons, e1]; show (evs F.PG c1 c0 es S1).bind _ = _; rw [e2]; rfl) (Gh.le_trans l1 l2) (fun p q => Same.tr (s1 p) (s2 q)) (.cons (r1.same h1.fh l2 (s2 (hpk pk))) rz) h2
  · rw [if_neg pk] at h1
    obtain ⟨f, r1⟩ := h1.head
    have o2 : Out F W G1 σ ((x, m) :: T) (evs F.PG c1 c0 es S1) := by
      cases q : evs F.PG c1 c0 es S1 with
      | ok ms S2 => trivial
      | exc y fs S2 => rw [q] at ho; exact Xk.drop (Xk.mono ho l1)
      | bad => rw [q] at ho; exact ho
    refine ⟨kY x H1 G1 m S1 f e1 r1, tevsO_mono (tevsO_of h1 o2) fun xs H2 ⟨G2, ms, S2, e2, l2, s2, rz, h2⟩ => ?_⟩
    obtain ⟨f, r1⟩ := h2.head
    exact k x xs H2 G2 S2 (m :: ms) (by rw [evs_cons, e1]; show (evs F.PG c1 c0 es S1).bind _ = _; rw [e2]; rfl) (Gh.le_trans l1 l2) (fun p q => Same.tr (s1 p) (s2 q)) (.cons r1 rz) h2.tail
/-- o.m(e, ..), a method of a text or a list -/
theorem meth_of {op : Op} {Ty : String} {r : V → List V → Hp → VK → Prop} {Q : VK} (hpk : isPk ca = true → purs ces = true) (hp : purs ces = true ∨ (Ty = "str" ∧ ∃ s, ca = .cst (.str s)))
    (hT : ∀ (G : Gh) (H : Hp) ob m ms x f n, doOp F.PG ob op (m :: ms) = some n → RM F G H x m f → tyV F.K Ty x H)
    (ok : ∀ (G : Gh) (H : Hp) (σ : L2.St) (S : Sg) (T : List (V × M)) (x : V) (vs : List V) (ms : List M) (m : M) (Q : VK), Stt F G H σ S T → RZ F G H (x :: vs) ms → doOp F.PG S.ob op ms = some m → (∀ V H', Res F G H m V H' → Q V H') → r x vs H Q)
    (h : tev F c1 c0 W (.op op (.cons ca ces)) σ H Q) : tBM F.K Ty r (tevO F c1 c0 W ca) (tevsO F c1 c0 W ces) σ H Q := by
  obtain ⟨G, S, T, hs, h⟩ := tev_iff.mp h
  have h0 := h
  obtain ⟨ho, fin⟩ := op_fin h
  have o1 : Out F W G σ T (ev F.PG c1 c0 ca S) := by
    rw [evs_cons] at ho
    exact out_bind ho
  have ty : ∀ m S1, ev F.PG c1 c0 ca S = .ok m S1 → ∀ (G1 : Gh) (H1 : Hp) (x : V) f, RM F G1 H1 x m f → tyV F.K Ty x H1 := fun m S1 e1 G1 H1 x f rm => by
    rcases hp with hp | ⟨rfl, s, rfl⟩
    · have e0 : ev F.PG c1 c0 (.op op (.cons ca ces)) S = (evs F.PG c1 c0 (.cons ca ces) S).bind fun ms S => opt (doOp F.PG S.ob op ms) S := rfl
      rw [e0, evs_cons, e1] at h0
      have h0 : Wants F W G H σ T (purs (.cons ca ces)) Q (((evs F.PG c1 c0 ces S1).bind fun ms S => R.ok (m :: ms) S).bind fun ms S => opt (doOp F.PG S.ob op ms) S) := h0
      cases q : evs F.PG c1 c0 ces S1 with
      | ok ms S2 =>
        rw [q] at h0
        have h0 : Wants F W G H σ T (purs (.cons ca ces)) Q (opt (doOp F.PG S2.ob op (m :: ms)) S2) := h0
        cases q2 : doOp F.PG S2.ob op (m :: ms) with
        | none => rw [q2] at h0; exact h0.elim
        | some n => exact hT G1 H1 S2.ob m ms x f n q2 rm
      | exc x' fs S2 => exact absurd q (purs_ne ces S1 hp x' fs S2)
      | bad => rw [q] at h0; exact h0.elim
    · cases (show R.ok (M.val (.str s)) S = .ok m S1 from e1)
      obtain rfl := rm_str rm
      exact rfl
  exact opd_consY hpk hs ho (fun x H1 G1 m S1 f e1 rm => ty m S1 e1 G1 H1 x f rm) fun x xs H2 G2 S2 ms e2 l2 s2 rz h2 => by
    obtain ⟨m, em, k⟩ := fin ms S2 G2 H2 e2 l2 (fun z => by rw [purs, Bool.and_eq_true] at z; exact s2 z.1 z.2) h2
    exact ok G2 H2 σ S2 T x xs ms m Q h2 rz em k
theorem ty_str2 {f : M → M → Option M} (hf : ∀ a b m, f a b = some m → ∃ s, a = .val (.str s)) {m : M} {ms : List M} {n : M} {x : V} {g : List Addr} (h : d2 f (m :: ms) = some n) (r : RM F G H x m g) : tyV F.K "str" x H := by
  obtain ⟨a, b, e, h⟩ := d2_of h
  cases e
  obtain ⟨s, rfl⟩ := hf _ _ _ h
  obtain rfl := rm_str r
  rfl
theorem ty_join (G : Gh) (H : Hp) (ob : List Ob) (m : M) (ms : List M) (x : V) (f : List Addr) (n : M) (h : doOp F.PG ob .join_ (m :: ms) = some n) (r : RM F G H x m f) : tyV F.K "str" x H := by
  refine ty_str2 (f := doJoin) (fun a b m h => ?_) h r
  unfold doJoin at h
  split at h
  · rename_i s _ e _; exact ⟨_, asStr_of e⟩
  · cases h
theorem ty_split (G : Gh) (H : Hp) (ob : List Ob) (m : M) (ms : List M) (x : V) (f : List Addr) (n : M) (h : doOp F.PG ob .split_ (m :: ms) = some n) (r : RM F G H x m f) : tyV F.K "str" x H := by
  refine ty_str2 (f := doSplit) (fun a b m h => ?_) h r
  unfold doSplit at h
  split at h
  · rename_i s _ e _; exact ⟨_, asStr_of e⟩
  · cases h
theorem ty_find (G : Gh) (H : Hp) (ob : List Ob) (m : M) (ms : List M) (x : V) (f : List Addr) (n : M) (h : doOp F.PG ob .find_ (m :: ms) = some n) (r : RM F G H x m f) : tyV F.K "str" x H := by
  have h0 := d3_of (f := doFind) h
  clear h
  obtain ⟨a, b, c, e, h⟩ := h0
  cases e
  unfold doFind at h
  split at h
  · rename_i s _ _ e _ _
    obtain rfl := asStr_of e
    obtain rfl := rm_str r
    rfl
  · cases h
theorem ty_index (G : Gh) (H : Hp) (ob : List Ob) (m : M) (ms : List M) (x : V) (f : List Addr) (n : M) (h : doOp F.PG ob .index_ (m :: ms) = some n) (r : RM F G H x m f) : tyV F.K "list" x H := by
  have h0 := d2_of (f := doIndex) h
  clear h
  obtain ⟨a, b, e, h⟩ := h0
  cases e
  unfold doIndex at h
  split at h
  · rename_i xs e
    obtain ⟨p, us, rfl, q, _⟩ := liq_of r e
    exact .inl ⟨rfl, us, q⟩
  · cases h
/-- few arguments, none of them starred -/
def Few (X : Cx) (pos : Pos) (es : List Expr) : Prop := ((backTo pos (starEach es X.env)).all (fun x => !x.1) && (backToKw pos (keywordEach [] X.env)).all (fun x => x.1.isSome)
      && decide (es.length + ([] : List Keyword).length + (if ([] : List Keyword).isEmpty then 0 else 1) < 30)) = true
section
variable (hK : X.K = F.K) (ho : PE X o (tevO F c1 c0 W ca)) (ha : PA X (e :: es) (tevsO F c1 c0 W ces)) (hpk : isPk ca = true → purs ces = true) (hfew : Few X pos (e :: es)) (hline : (apos.endLine == pos.line) = true) (hst : starEach (e :: es) X.env = (false, eval e X.env) :: starEach es X.env)
  (hpl : (backTo pos (starEach es X.env)).any (·.1) = false)
include hK ho ha hpk hfew hline hst hpl
theorem sn_join (hp : purs ces = true ∨ ∃ s, ca = .cst (.str s)) (hbase : attributeBase o "join" X.env (eval o X.env) = eval o X.env) : PE X (.Call (.Attribute o "join" apos) (e :: es) [] pos) (tev F c1 c0 W (.op .join_ (.cons ca ces))) := by
  have hr : MtR X "str.join" (fun x xs H Q => ∃ a p, ∃ ys : List Str, x = .str a ∧ xs = [.ref p] ∧ (SqL F.K H p (ys.map V.str) ∨ SqT F.K H p (ys.map V.str)) ∧ (ys.map (·.length)).sum + ys.length * a.length ≤ 16777216 ∧ Q (.str (Txt.join a ys)) H) := by
    have := @mt_join X
    rwa [hK] at this
  have pe := pe_bm PySem.F.plainAttrs_str PySem.F.slot_str_join PySem.F.type_str_join hr ho ha hbase hfew hline hst hpl
  rw [hK] at pe
  exact PE.imp pe fun σ H Q h => meth_of hpk (hp.imp id fun z => ⟨rfl, z⟩) ty_join (fun G H σ S T x vs ms m Q h1 h2 h3 h4 => (ok_join G H σ S T x vs ms m Q h1 h2 h3 h4).2) h
theorem sn_split (hp : purs ces = true ∨ ∃ s, ca = .cst (.str s)) (hbase : attributeBase o "split" X.env (eval o X.env) = eval o X.env) : PE X (.Call (.Attribute o "split" apos) (e :: es) [] pos) (tev F c1 c0 W (.op .split_ (.cons ca ces))) := by
  have pe := pe_bm PySem.F.plainAttrs_str PySem.F.slot_str_split PySem.F.type_str_split mt_split ho ha hbase hfew hline hst hpl
  rw [hK] at pe
  exact PE.imp pe fun σ H Q h => meth_of hpk (hp.imp id fun z => ⟨rfl, z⟩) ty_split (fun G H σ S T x vs ms m Q h1 h2 h3 h4 => (ok_split G H σ S T x vs ms m Q h1 h2 h3 h4).2) h
theorem sn_find (hp : purs ces = true ∨ ∃ s, ca = .cst (.str s)) (hbase : attributeBase o "find" X.env (eval o X.env) = eval o X.env) : PE X (.Call (.Attribute o "find" apos) (e :: es) [] pos) (tev F c1 c0 W (.op .find_ (.cons ca ces))) := by
  have pe := pe_bm PySem.F.plainAttrs_str PySem.F.slot_str_find PySem.F.type_str_find mt_find3 ho ha hbase hfew hline hst hpl
  rw [hK] at pe
  exact PE.imp pe fun σ H Q h => meth_of hpk (hp.imp id fun z => ⟨rfl, z⟩) ty_find (fun G H σ S T x vs ms m Q h1 h2 h3 h4 => (ok_find G H σ S T x vs ms m Q h1 h2 h3 h4).2) h
theorem sn_index (hp : purs ces = true) (hbase : attributeBase o "index" X.env (eval o X.env) = eval o X.env) : PE X (.Call (.Attribute o "index" apos) (e :: es) [] pos) (tev F c1 c0 W (.op .index_ (.cons ca ces))) := by
  have hr : MtR X "list.index" (L2.rIndex F.K) := by
    have := @mt_index X
    rwa [hK] at this
  have pe := pe_bm PySem.F.plainAttrs_list PySem.F.slot_list_index PySem.F.type_list_index hr ho ha hbase hfew hline hst hpl
  rw [hK] at pe
  exact PE.imp pe fun σ H Q h => meth_of hpk (.inl hp) ty_index (fun G H σ S T x vs ms m Q h1 h2 h3 h4 => ok_index G H σ S T x vs ms m Q h1 h2 h3 h4) h
end
/-! ### slices -/
theorem sl_all' (hK : X.K = F.K) : L2.SlR X (rSlAll F.K) := by
  have := @sl_all X
  rwa [hK] at this
theorem evs_one {a : CE} : evs F.PG c1 c0 (.cons a .nil) S = (ev F.PG c1 c0 a S).bind fun m S => .ok [m] S := by
  rw [evs_cons]
  cases ev F.PG c1 c0 a S <;> rfl
theorem evs_two {a b : CE} : evs F.PG c1 c0 (.cons a (.cons b .nil)) S = (ev F.PG c1 c0 a S).bind fun m S => (ev F.PG c1 c0 b S).bind fun n S => .ok [m, n] S := by
  rw [evs_cons]
  congr 1
  funext m S1
  rw [evs_one]
  cases ev F.PG c1 c0 b S1 <;> rfl
/-- two pure operands behind a first one -/
theorem opd3 {a b c : CE} {Y : V → Hp → Prop} {Z : V → V → V → Hp → Prop} (hp : purs (.cons b (.cons c .nil)) = true) (hs : Stt F G H σ S T) (ho : Out F W G σ T (evs F.PG c1 c0 (.cons a (.cons b (.cons c .nil))) S))
    (kY : ∀ m S1 y n S2 H1 G1 f, ev F.PG c1 c0 a S = .ok m S1 → ev F.PG c1 c0 b S1 = .ok n S2 → RM F G1 H1 y n f → Y y H1)
    (k : ∀ x y z H2 G2 S2 m1 m2 m3 f1 f2 f3, evs F.PG c1 c0 (.cons a (.cons b (.cons c .nil))) S = .ok [m1, m2, m3] S2 → G.le G2 → (pur a = true → Same H H2) → RM F G2 H2 x m1 f1 → RM F G2 H2 y m2 f2 → RM F G2 H2 z m3 f3 → Stt F G2 H2 σ S2 T → Z x y z H2) :
    tevO F c1 c0 W a σ H fun x H1 => tevO F c1 c0 W b σ H1 fun y H2 => Y y H2 ∧ tevO F c1 c0 W c σ H2 fun z H3 => Z x y z H3 := by
  rw [evs_cons] at ho
  have o1 : Out F W G σ T (ev F.PG c1 c0 a S) := out_bind ho
  have hpc : purs (.cons c .nil) = true := by rw [purs, Bool.and_eq_true] at hp; exact hp.2
  have hpb : pur b = true := by rw [purs, Bool.and_eq_true] at hp; exact hp.1
  refine tevO_mono (tevO_of hs o1) fun x H1 ⟨G1, m, S1, e1, l1, s1, h1⟩ => ?_
  rw [e1] at ho
  have ho : Out F W G σ T ((evs F.PG c1 c0 (.cons b (.cons c .nil)) S1).bind fun ms S => R.ok (m :: ms) S) := ho
  have fin : ∀ y zs H2 G2 S2 ms f T' , Stt F G2 H2 σ S2 T' → (T' = T ∨ T' = (x, m) :: T) → evs F.PG c1 c0 (.cons b (.cons c .nil)) S1 = .ok ms S2 → G1.le G2 → Same H1 H2 → RZ F G2 H2 (y :: zs) ms → RM F G2 H2 x m f → ∃ z, zs = [z] ∧ Z x y z H2 := fun y zs H2 G2 S2 ms f T' h2 hT e2 l2 s2 rz rx => by
    have : ∃ m1 m2, ms = [m1, m2] := by
      rw [evs_two] at e2
      cases q1 : ev F.PG c1 c0 b S1 with
      | ok m1 S3 =>
        rw [q1] at e2
        have e2 : ((ev F.PG c1 c0 c S3).bind fun d S => R.ok [m1, d] S) = .ok ms S2 := e2
        cases q2 : ev F.PG c1 c0 c S3 with
        | ok m2 S4 => rw [q2] at e2; cases e2; exact ⟨_, _, rfl⟩
        | exc _ _ _ => rw [q2] at e2; cases e2
        | bad => rw [q2] at e2; cases e2
      | exc _ _ _ => rw [q1] at e2; cases e2
      | bad => rw [q1] at e2; cases e2
    obtain ⟨m1, m2, rfl⟩ := this
    obtain ⟨v, u, f1, f2, e3, r1, r2⟩ := rz.two
    injection e3 with e3 e4
    subst e3 e4
    refine ⟨u, rfl, k x _ u H2 G2 S2 m m1 m2 f f1 f2 (by rw [evs_cons, e1]; show (evs F.PG c1 c0 _ S1).bind _ = _; rw [e2]; rfl) (Gh.le_trans l1 l2) (fun z => Same.tr (s1 z) s2) rx r1 r2 ?_⟩
    rcases hT with rfl | rfl
    · exact h2
    · exact h2.tail
  have conv : ∀ {H1 : Hp}, (tevO F c1 c0 W b σ H1 fun y H2 => Y y H2 ∧ tevsO F c1 c0 W (.cons c .nil) σ H2 fun zs H3 => ∃ z, zs = [z] ∧ Z x y z H3) → tevO F c1 c0 W b σ H1 fun y H2 => Y y H2 ∧ tevO F c1 c0 W c σ H2 fun z H3 => Z x y z H3 := fun h =>
    tevO_mono h fun y H2 ⟨z1, z2⟩ => ⟨z1, tevO_mono (tevsO_one z2) fun z H3 ⟨z', e, q⟩ => by cases e; exact q⟩
  by_cases pk : isPk a = true
  · rw [if_pos pk] at h1
    obtain ⟨h1, f, r1⟩ := h1
    have o2 : Out F W G1 σ T (evs F.PG c1 c0 (.cons b (.cons c .nil)) S1) := by
      cases q : evs F.PG c1 c0 (.cons b (.cons c .nil)) S1 with
      | ok ms S2 => trivial
      | exc x fs S2 => rw [q] at ho; exact Xk.mono ho l1
      | bad => rw [q] at ho; exact ho
    exact conv (opd_consY (fun _ => hpc) h1 o2 (fun y H2 G2 n S2 f e2 r => kY m S1 y n S2 H2 G2 f e1 e2 r) fun y zs H2 G2 S2 ms e2 l2 s2 rz h2 => fin y zs H2 G2 S2 ms f T h2 (.inl rfl) e2 l2 (s2 hpb hpc) rz (r1.same h1.fh l2 (s2 hpb hpc)))
  · rw [if_neg pk] at h1
    have o2 : Out F W G1 σ ((x, m) :: T) (evs F.PG c1 c0 (.cons b (.cons c .nil)) S1) := by
      cases q : evs F.PG c1 c0 (.cons b (.cons c .nil)) S1 with
      | ok ms S2 => trivial
      | exc y fs S2 => rw [q] at ho; exact Xk.drop (Xk.mono ho l1)
      | bad => rw [q] at ho; exact ho
    exact conv (opd_consY (fun _ => hpc) h1 o2 (fun y H2 G2 n S2 f e2 r => kY m S1 y n S2 H2 G2 f e1 e2 r) fun y zs H2 G2 S2 ms e2 l2 s2 rz h2 => by
      obtain ⟨f, r1⟩ := h2.head
      exact fin y zs H2 G2 S2 ms f _ h2 (.inr rfl) e2 l2 (s2 hpb hpc) rz r1)
variable {lo hi : Expr} {cl ch : CE}
theorem sn_slcL (hK : X.K = F.K) (ha : PE X a (tevO F c1 c0 W ca)) (hl : PE X lo (tevO F c1 c0 W cl)) (hpk : isPk ca = true → pur cl = true) :
    PE X (.Subscript a (.Slice (some lo) none none p2) pos) (tev F c1 c0 W (.op .slcL (.cons ca (.cons cl .nil)))) := by
  refine PE.imp (pe_slice (sl_all' hK) ha (po_some hl) po_none) fun σ H Q h => ?_
  obtain ⟨G, S, T, hs, h⟩ := tev_iff.mp h
  obtain ⟨ho, fin⟩ := op_fin h
  have hpk' : isPk ca = true → purs (.cons cl .nil) = true := fun z => by rw [purs, hpk z]; rfl
  refine tevO_mono (opd_cons (Z := fun x xs H2 => ∃ i, xs = [.int i] ∧ rSlAll F.K x (some i) none H2 Q) hpk' hs ho fun x xs H2 G2 S2 ms e2 l2 s2 rz h2 => ?_) fun x H1 z => ?_
  · obtain ⟨m, em, k⟩ := fin ms S2 G2 H2 e2 l2 (fun z => by rw [purs, Bool.and_eq_true] at z; exact s2 z.1 z.2) h2
    have h0 := d2_of (f := fun a lo => (lo.asInt).bind fun lo => a.slc (some lo) none) em
    clear em
    obtain ⟨m1, m2, rfl, em⟩ := h0
    obtain ⟨i, ei, em⟩ := Option.bind_eq_some_iff.mp em
    obtain rfl := asInt_of ei
    obtain ⟨v, u, f1, f2, e3, r1, r2⟩ := rz.two
    injection e3 with e3 e4
    subst e3 e4
    obtain rfl := rm_int r2
    exact ⟨i, rfl, ok_slc r1 em k⟩
  · refine tevO_mono (tevsO_one z) fun y H2 z => ?_
    obtain ⟨i, e, q⟩ := z
    cases e
    exact ⟨i, rfl, q⟩
theorem sn_slcH (hK : X.K = F.K) (ha : PE X a (tevO F c1 c0 W ca)) (hl : PE X hi (tevO F c1 c0 W ch)) (hpk : isPk ca = true → pur ch = true) :
    PE X (.Subscript a (.Slice none (some hi) none p2) pos) (tev F c1 c0 W (.op .slcH (.cons ca (.cons ch .nil)))) := by
  refine PE.imp (pe_slice (sl_all' hK) ha po_none (po_some hl)) fun σ H Q h => ?_
  obtain ⟨G, S, T, hs, h⟩ := tev_iff.mp h
  obtain ⟨ho, fin⟩ := op_fin h
  have hpk' : isPk ca = true → purs (.cons ch .nil) = true := fun z => by rw [purs, hpk z]; rfl
  refine tevO_mono (opd_cons (Z := fun x xs H2 => ∃ i, xs = [.int i] ∧ rSlAll F.K x none (some i) H2 Q) hpk' hs ho fun x xs H2 G2 S2 ms e2 l2 s2 rz h2 => ?_) fun x H1 z => ?_
  · obtain ⟨m, em, k⟩ := fin ms S2 G2 H2 e2 l2 (fun z => by rw [purs, Bool.and_eq_true] at z; exact s2 z.1 z.2) h2
    have h0 := d2_of (f := fun a hi => (hi.asInt).bind fun hi => a.slc none (some hi)) em
    clear em
    obtain ⟨m1, m2, rfl, em⟩ := h0
    obtain ⟨i, ei, em⟩ := Option.bind_eq_some_iff.mp em
    obtain rfl := asInt_of ei
    obtain ⟨v, u, f1, f2, e3, r1, r2⟩ := rz.two
    injection e3 with e3 e4
    subst e3 e4
    obtain rfl := rm_int r2
    exact ⟨i, rfl, ok_slc r1 em k⟩
  · refine tevO_mono (tevsO_one z) fun y H2 z => ?_
    obtain ⟨i, e, q⟩ := z
    cases e
    exact ⟨i, rfl, q⟩
theorem sn_slcLH (hK : X.K = F.K) (ha : PE X a (tevO F c1 c0 W ca)) (hl : PE X lo (tevO F c1 c0 W cl)) (hh : PE X hi (tevO F c1 c0 W ch)) (hp : purs (.cons cl (.cons ch .nil)) = true) :
    PE X (.Subscript a (.Slice (some lo) (some hi) none p2) pos) (tev F c1 c0 W (.op .slcLH (.cons ca (.cons cl (.cons ch .nil))))) := by
  refine PE.imp (pe_slice (sl_all' hK) ha (po_some hl) (po_some hh)) fun σ H Q h => ?_
  obtain ⟨G, S, T, hs, h⟩ := tev_iff.mp h
  have h0 := h
  obtain ⟨ho, fin⟩ := op_fin h
  have hop : ∀ ob m1 m2 m3 n, doOp F.PG ob .slcLH [m1, m2, m3] = some n → ∃ i j, m2 = .val (.int i) ∧ m3 = .val (.int j) ∧ m1.slc (some i) (some j) = some n := fun ob m1 m2 m3 n em => by
    obtain ⟨i, ei, em⟩ := Option.bind_eq_some_iff.mp (show ((m2.asInt).bind fun lo => (m3.asInt).bind fun hi => m1.slc (some lo) (some hi)) = some n from em)
    obtain ⟨j, ej, em⟩ := Option.bind_eq_some_iff.mp em
    exact ⟨i, j, asInt_of ei, asInt_of ej, em⟩
  have main := opd3 (W := W) (Y := fun y _ => ∃ i, y = .int i) (Z := fun x y z H => ∃ i j, y = .int i ∧ z = .int j ∧ rSlAll F.K x (some i) (some j) H Q) hp hs ho (fun m S1 y n S2 H1 G1 f e1 e2 r => ?_)
    (fun x y z H2 G2 S2 m1 m2 m3 f1 f2 f3 e2 l2 s2 r1 r2 r3 h2 => ?_)
  · refine tevO_mono main fun x H1 z => tevO_mono z fun y H2 z => ?_
    obtain ⟨⟨i, rfl⟩, z⟩ := z
    refine ⟨i, rfl, tevO_mono z fun w H3 z => ?_⟩
    obtain ⟨i', j, e, rfl, q⟩ := z
    cases e
    exact ⟨j, rfl, q⟩
  · -- the lower bound is an int
    have hpc : purs (.cons ch .nil) = true := by rw [purs, Bool.and_eq_true] at hp; exact hp.2
    have e0 : ev F.PG c1 c0 (.op .slcLH (.cons ca (.cons cl (.cons ch .nil)))) S = (evs F.PG c1 c0 (.cons ca (.cons cl (.cons ch .nil))) S).bind fun ms S => opt (doOp F.PG S.ob .slcLH ms) S := rfl
    rw [e0, evs_cons, e1] at h0
    have h0 : Wants F W G H σ T (purs (.cons ca (.cons cl (.cons ch .nil)))) Q (((evs F.PG c1 c0 (.cons cl (.cons ch .nil)) S1).bind fun ms S => R.ok (m :: ms) S).bind fun ms S => opt (doOp F.PG S.ob .slcLH ms) S) := h0
    rw [evs_cons, e2] at h0
    have h0 : Wants F W G H σ T (purs (.cons ca (.cons cl (.cons ch .nil)))) Q ((((evs F.PG c1 c0 (.cons ch .nil) S2).bind fun ms S => R.ok (n :: ms) S).bind fun ms S => R.ok (m :: ms) S).bind fun ms S => opt (doOp F.PG S.ob .slcLH ms) S) := h0
    cases q : evs F.PG c1 c0 (.cons ch .nil) S2 with
    | ok ms S3 =>
      rw [q] at h0
      have h0 : Wants F W G H σ T (purs (.cons ca (.cons cl (.cons ch .nil)))) Q (opt (doOp F.PG S3.ob .slcLH (m :: n :: ms)) S3) := h0
      cases q2 : doOp F.PG S3.ob .slcLH (m :: n :: ms) with
      | none => rw [q2] at h0; exact h0.elim
      | some r' =>
        have h1 := d3_of (f := fun a lo hi => (lo.asInt).bind fun lo => (hi.asInt).bind fun hi => a.slc (some lo) (some hi)) (ms := m :: n :: ms) (m := r') q2
        obtain ⟨a1, a2, a3, e, _⟩ := h1
        cases e
        obtain ⟨i, j, rfl, _, _⟩ := hop _ _ _ _ _ q2
        exact ⟨i, rm_int r⟩
    | exc x' fs S3 => exact absurd q (purs_ne _ S2 hpc x' fs S3)
    | bad => rw [q] at h0; exact h0.elim
  · have pm : purs (.cons ca (.cons cl (.cons ch .nil))) = true → Same H H2 := fun z => s2 (by rw [purs, Bool.and_eq_true] at z; exact z.1)
    obtain ⟨m, em, k⟩ := fin _ S2 G2 H2 e2 l2 pm h2
    obtain ⟨i, j, rfl, rfl, es⟩ := hop _ _ _ _ _ em
    exact ⟨i, j, rm_int r2, rm_int r3, ok_slc r1 es k⟩
end
end Tk
/- Snd10 -/
set_option Elab.async false
set_option linter.all false
set_option maxRecDepth 100000
set_option maxHeartbeats 1000000
namespace Tk
open PySem PySem.Spec PyProof.Rows L2
section
variable {F : Fx} {c1 c0 : CallFn} {W : WX} {G G' : Gh} {H H' : Hp} {σ : L2.St} {S S' : Sg} {T : List (V × M)} {X : Cx} {e e1 a b c o : Expr} {ca cb cc : CE} {es rest : List Expr} {ces : CEs} {pos p p2 apos : Pos}
/-- what a test's transformer asks -/
def WantT (F : Fx) (W : WX) (G : Gh) (H : Hp) (σ : L2.St) (T : List (V × M)) (pu : Bool) (Q : Bool → Hp → Prop) : R M → Prop
  | .ok m S' => ∃ b, m = .val (.bl b) ∧ ∀ H' G', G.le G' → (pu = true → Same H H') → Stt F G' H' σ S' T → Q b H'
  | .exc x fs S' => Xk F W G σ T x fs S'
  | .bad => False
theorem tet_iff {ce : CE} {Q : Bool → Hp → Prop} : tet F c1 c0 W ce σ H Q ↔ ∃ G S T, Stt F G H σ S T ∧ WantT F W G H σ T (pur ce) Q (ev F.PG c1 c0 ce S) := by
  constructor
  · rintro ⟨G, S, T, hs, h⟩
    refine ⟨G, S, T, hs, ?_⟩
    cases q : ev F.PG c1 c0 ce S <;> (rw [q] at h; exact h)
  · rintro ⟨G, S, T, hs, h⟩
    refine ⟨G, S, T, hs, ?_⟩
    cases q : ev F.PG c1 c0 ce S <;> (rw [q] at h; exact h)
theorem Wants.mono {G1 : Gh} {H1 : Hp} {pu pv : Bool} {Q : VK} {r : R M} (h : Wants F W G H σ T pu Q r) (l : G.le G1) (s : pu = true → pv = true ∧ Same H H1) : Wants F W G1 H1 σ T pv Q r := by
  cases r with
  | ok m S => exact fun V H' G' le sm z => h V H' G' (Gh.le_trans l le) (fun z => Same.tr (s z).2 (sm (s z).1)) z
  | exc x fs S => exact Xk.mono h l
  | bad => exact h
theorem WantT.mono {G1 : Gh} {H1 : Hp} {pu pv : Bool} {Q : Bool → Hp → Prop} {r : R M} (h : WantT F W G H σ T pu Q r) (l : G.le G1) (s : pu = true → pv = true ∧ Same H H1) : WantT F W G1 H1 σ T pv Q r := by
  cases r with
  | ok m S =>
    obtain ⟨b, e, h⟩ := h
    exact ⟨b, e, fun H' G' le sm z => h H' G' (Gh.le_trans l le) (fun z => Same.tr (s z).2 (sm (s z).1)) z⟩
  | exc x fs S => exact Xk.mono h l
  | bad => exact h
/-- a part that must be a truth value, as a value -/
theorem part_v {f : Bool → Sg → R M} {K : M → Sg → R M} {pu : Bool} {Q Q' : VK} (hs : Stt F G H σ S T) (hK : ∀ m S, K m S = match m with | .val (.bl b) => f b S | _ => .bad) (h : Wants F W G H σ T pu Q ((ev F.PG c1 c0 ca S).bind K))
    (k : ∀ b H1 G1 S1, Stt F G1 H1 σ S1 T → G.le G1 → (pur ca = true → Same H H1) → Wants F W G H σ T pu Q (f b S1) → Q' (.bl b) H1) : tev F c1 c0 W ca σ H Q' := by
  have o1 : Out F W G σ T (ev F.PG c1 c0 ca S) := by
    cases q : ev F.PG c1 c0 ca S with
    | ok m S1 => trivial
    | exc x fs S1 => rw [q] at h; exact h
    | bad => rw [q] at h; exact h
  refine tev_mono (tev_of hs o1) fun x H1 ⟨G1, m, S1, e1, l1, s1, h1⟩ => ?_
  rw [e1] at h
  have h : Wants F W G H σ T pu Q (K m S1) := h
  rw [hK] at h
  cases m with
  | val d =>
    cases d with
    | bl bb =>
      obtain ⟨f', r⟩ := h1.head
      obtain rfl := rm_bl r
      exact k bb H1 G1 S1 h1.tail l1 s1 h
    | _ => exact h.elim
  | lst _ => exact h.elim
  | dct _ => exact h.elim
/-- .. as a test, within a value -/
theorem part_t {f : Bool → Sg → R M} {K : M → Sg → R M} {pu : Bool} {Q : VK} {Q' : Bool → Hp → Prop} (hs : Stt F G H σ S T) (hK : ∀ m S, K m S = match m with | .val (.bl b) => f b S | _ => .bad) (h : Wants F W G H σ T pu Q ((ev F.PG c1 c0 ca S).bind K))
    (k : ∀ b H1 G1 S1, Stt F G1 H1 σ S1 T → G.le G1 → (pur ca = true → Same H H1) → Wants F W G H σ T pu Q (f b S1) → Q' b H1) : tet F c1 c0 W ca σ H Q' := by
  have o1 : (match ev F.PG c1 c0 ca S with | .ok m _ => ∃ b, m = .val (.bl b) | .exc x fs S' => Xk F W G σ T x fs S' | .bad => False) := by
    cases q : ev F.PG c1 c0 ca S with
    | ok m S1 =>
      rw [q] at h
      have h : Wants F W G H σ T pu Q (K m S1) := h
      rw [hK] at h
      cases m with
      | val d => cases d <;> first | (exact h.elim) | exact ⟨_, rfl⟩
      | lst _ => exact h.elim
      | dct _ => exact h.elim
    | exc x fs S1 => rw [q] at h; exact h
    | bad => rw [q] at h; exact h
  refine tet_mono (tet_of hs o1) fun b H1 ⟨G1, S1, e1, l1, s1, h1⟩ => ?_
  rw [e1] at h
  have h : Wants F W G H σ T pu Q (K (.val (.bl b)) S1) := h
  rw [hK] at h
  exact k b H1 G1 S1 h1 l1 s1 h
/-- .. as a test, within a test -/
theorem part_tt {f : Bool → Sg → R M} {K : M → Sg → R M} {pu : Bool} {Q : Bool → Hp → Prop} {Q' : Bool → Hp → Prop} (hs : Stt F G H σ S T) (hK : ∀ m S, K m S = match m with | .val (.bl b) => f b S | _ => .bad) (h : WantT F W G H σ T pu Q ((ev F.PG c1 c0 ca S).bind K))
    (k : ∀ b H1 G1 S1, Stt F G1 H1 σ S1 T → G.le G1 → (pur ca = true → Same H H1) → WantT F W G H σ T pu Q (f b S1) → Q' b H1) : tet F c1 c0 W ca σ H Q' := by
  have o1 : (match ev F.PG c1 c0 ca S with | .ok m _ => ∃ b, m = .val (.bl b) | .exc x fs S' => Xk F W G σ T x fs S' | .bad => False) := by
    cases q : ev F.PG c1 c0 ca S with
    | ok m S1 =>
      rw [q] at h
      have h : WantT F W G H σ T pu Q (K m S1) := h
      rw [hK] at h
      cases m with
      | val d => cases d <;> first | (exact h.elim) | exact ⟨_, rfl⟩
      | lst _ => exact h.elim
      | dct _ => exact h.elim
    | exc x fs S1 => rw [q] at h; exact h
    | bad => rw [q] at h; exact h
  refine tet_mono (tet_of hs o1) fun b H1 ⟨G1, S1, e1, l1, s1, h1⟩ => ?_
  rw [e1] at h
  have h : WantT F W G H σ T pu Q (K (.val (.bl b)) S1) := h
  rw [hK] at h
  exact k b H1 G1 S1 h1 l1 s1 h
def kAnd (P : Prog) (c1 c0 : CallFn) (es : CEs) (b : Bool) (S : Sg) : R M := match b with | true => evAnd P c1 c0 es S | false => .ok (.val (.bl false)) S
def kOr (P : Prog) (c1 c0 : CallFn) (es : CEs) (b : Bool) (S : Sg) : R M := match b with | false => evOr P c1 c0 es S | true => .ok (.val (.bl true)) S
def kNot (b : Bool) (S : Sg) : R M := .ok (.val (.bl (!b))) S
def kIte (P : Prog) (c1 c0 : CallFn) (x y : CE) (b : Bool) (S : Sg) : R M := match b with | true => ev P c1 c0 x S | false => ev P c1 c0 y S
theorem hAnd (es : CEs) (m : M) (S : Sg) : (match m with | .val (.bl true) => evAnd F.PG c1 c0 es S | .val (.bl false) => .ok (.val (.bl false)) S | _ => .bad) = (match m with | .val (.bl b) => kAnd F.PG c1 c0 es b S | _ => .bad) := by
  cases m with
  | val d => cases d <;> first | rfl | (rename_i b; cases b <;> rfl)
  | _ => rfl
theorem hOr (es : CEs) (m : M) (S : Sg) : (match m with | .val (.bl false) => evOr F.PG c1 c0 es S | .val (.bl true) => .ok (.val (.bl true)) S | _ => .bad) = (match m with | .val (.bl b) => kOr F.PG c1 c0 es b S | _ => .bad) := by
  cases m with
  | val d => cases d <;> first | rfl | (rename_i b; cases b <;> rfl)
  | _ => rfl
theorem hNot (m : M) (S : Sg) : (match m with | .val (.bl b) => R.ok (.val (.bl (!b))) S | _ => .bad) = (match m with | .val (.bl b) => kNot b S | _ => .bad) := by
  cases m with
  | val d => cases d <;> rfl
  | _ => rfl
theorem hIte (x y : CE) (m : M) (S : Sg) : (match m with | .val (.bl true) => ev F.PG c1 c0 x S | .val (.bl false) => ev F.PG c1 c0 y S | _ => .bad) = (match m with | .val (.bl b) => kIte F.PG c1 c0 x y b S | _ => .bad) := by
  cases m with
  | val d => cases d <;> first | rfl | (rename_i b; cases b <;> rfl)
  | _ => rfl
theorem Wants.use {m : M} {pu : Bool} {Q : VK} {V : V} {H1 : Hp} {G1 : Gh} {S1 : Sg} (h : Wants F W G H σ T pu Q (.ok m S1)) (l : G.le G1) (s : pu = true → Same H H1) (z : Stt F G1 H1 σ S1 ((V, m) :: T)) : Q V H1 := h V H1 G1 l s z
/-! ### and, or -/
theorem sn_and1 (ha : PE X a (tev F c1 c0 W ca)) : PE X (.BoolOp .And [a] pos) (tev F c1 c0 W (.and (.cons ca .nil))) := by
  refine PE.imp (pe_one ha) fun σ H Q h => ?_
  obtain ⟨G, S, T, hs, h⟩ := tev_iff.mp h
  refine part_v hs (hAnd .nil) h fun b H1 G1 S1 h1 l1 s1 h => ?_
  have hp : pur (.and (.cons ca .nil)) = true → Same H H1 := fun z => s1 (by rw [pur, purs, Bool.and_eq_true] at z; exact z.1)
  cases b with
  | true => exact Wants.use h l1 hp (h1.val (.bl true))
  | false => exact Wants.use h l1 hp (h1.val (.bl false))
theorem sn_and (ha : PE X a (tev F c1 c0 W ca)) (hb : PE X (.BoolOp .And (b :: rest) pos) (tev F c1 c0 W (.and ces))) : PE X (.BoolOp .And (a :: b :: rest) pos) (tev F c1 c0 W (.and (.cons ca ces))) := by
  refine PE.imp (pe_and ha hb) fun σ H Q h => ?_
  obtain ⟨G, S, T, hs, h⟩ := tev_iff.mp h
  refine part_v hs (hAnd ces) h fun b H1 G1 S1 h1 l1 s1 h => ⟨b, rfl, ?_⟩
  cases b with
  | true =>
    rw [if_pos rfl]
    refine tev_iff.mpr ⟨G1, S1, T, h1, ?_⟩
    exact Wants.mono h l1 fun z => by
      rw [pur, purs, Bool.and_eq_true] at z
      exact ⟨z.2, s1 z.1⟩
  | false =>
    rw [if_neg (by decide)]
    exact Wants.use h l1 (fun z => s1 (by rw [pur, purs, Bool.and_eq_true] at z; exact z.1)) (h1.val (.bl false))
theorem sn_or1 (ha : PE X a (tev F c1 c0 W ca)) : PE X (.BoolOp .Or [a] pos) (tev F c1 c0 W (.or (.cons ca .nil))) := by
  refine PE.imp (pe_one ha) fun σ H Q h => ?_
  obtain ⟨G, S, T, hs, h⟩ := tev_iff.mp h
  refine part_v hs (hOr .nil) h fun b H1 G1 S1 h1 l1 s1 h => ?_
  have hp : pur (.or (.cons ca .nil)) = true → Same H H1 := fun z => s1 (by rw [pur, purs, Bool.and_eq_true] at z; exact z.1)
  cases b with
  | true => exact Wants.use h l1 hp (h1.val (.bl true))
  | false => exact Wants.use h l1 hp (h1.val (.bl false))
theorem sn_or (ha : PE X a (tev F c1 c0 W ca)) (hb : PE X (.BoolOp .Or (b :: rest) pos) (tev F c1 c0 W (.or ces))) : PE X (.BoolOp .Or (a :: b :: rest) pos) (tev F c1 c0 W (.or (.cons ca ces))) := by
  refine PE.imp (pe_or ha hb) fun σ H Q h => ?_
  obtain ⟨G, S, T, hs, h⟩ := tev_iff.mp h
  refine part_v hs (hOr ces) h fun b H1 G1 S1 h1 l1 s1 h => ⟨b, rfl, ?_⟩
  cases b with
  | false =>
    rw [if_neg (by decide)]
    refine tev_iff.mpr ⟨G1, S1, T, h1, ?_⟩
    exact Wants.mono h l1 fun z => by
      rw [pur, purs, Bool.and_eq_true] at z
      exact ⟨z.2, s1 z.1⟩
  | true =>
    rw [if_pos rfl]
    exact Wants.use h l1 (fun z => s1 (by rw [pur, purs, Bool.and_eq_true] at z; exact z.1)) (h1.val (.bl true))
theorem WantT.use {b : Bool} {pu : Bool} {Q : Bool → Hp → Prop} {H1 : Hp} {G1 : Gh} {S1 : Sg} (h : WantT F W G H σ T pu Q (.ok (.val (.bl b)) S1)) (l : G.le G1) (s : pu = true → Same H H1) (z : Stt F G1 H1 σ S1 T) : Q b H1 := by
  obtain ⟨b', e, h⟩ := h
  cases e
  exact h H1 G1 l s z
theorem sw_and1 (ha : PT X a (tet F c1 c0 W ca)) : PW X (.BoolOp .And [a] pos) (tet F c1 c0 W (.and (.cons ca .nil))) := by
  have pw := pw_and1 (pos := pos) ha
  refine ⟨fun wh pins s σ H Q I h => pw.run wh pins s σ H Q I ?_⟩
  obtain ⟨G, S, T, hs, h⟩ := tet_iff.mp h
  refine part_tt hs (hAnd .nil) h fun b H1 G1 S1 h1 l1 s1 h => ?_
  have hp : pur (.and (.cons ca .nil)) = true → Same H H1 := fun z => s1 (by rw [pur, purs, Bool.and_eq_true] at z; exact z.1)
  cases b with
  | true => exact WantT.use h l1 hp h1
  | false => exact WantT.use h l1 hp h1
theorem sw_and (ha : PT X a (tet F c1 c0 W ca)) (hb : PW X (.BoolOp .And (b :: rest) pos) (tet F c1 c0 W (.and ces))) : PW X (.BoolOp .And (a :: b :: rest) pos) (tet F c1 c0 W (.and (.cons ca ces))) := by
  have pw := pw_and ha hb
  refine ⟨fun wh pins s σ H Q I h => pw.run wh pins s σ H Q I ?_⟩
  obtain ⟨G, S, T, hs, h⟩ := tet_iff.mp h
  refine part_tt hs (hAnd ces) h fun b H1 G1 S1 h1 l1 s1 h => ?_
  cases b with
  | true =>
    rw [if_pos rfl]
    refine tet_iff.mpr ⟨G1, S1, T, h1, ?_⟩
    exact WantT.mono h l1 fun z => by
      rw [pur, purs, Bool.and_eq_true] at z
      exact ⟨z.2, s1 z.1⟩
  | false =>
    rw [if_neg (by decide)]
    exact WantT.use h l1 (fun z => s1 (by rw [pur, purs, Bool.and_eq_true] at z; exact z.1)) h1
theorem sw_or1 (ha : PT X a (tet F c1 c0 W ca)) : PW X (.BoolOp .Or [a] pos) (tet F c1 c0 W (.or (.cons ca .nil))) := by
  have pw := pw_or1 (pos := pos) ha
  refine ⟨fun wh pins s σ H Q I h => pw.run wh pins s σ H Q I ?_⟩
  obtain ⟨G, S, T, hs, h⟩ := tet_iff.mp h
  refine part_tt hs (hOr .nil) h fun b H1 G1 S1 h1 l1 s1 h => ?_
  have hp : pur (.or (.cons ca .nil)) = true → Same H H1 := fun z => s1 (by rw [pur, purs, Bool.and_eq_true] at z; exact z.1)
  cases b with
  | true => exact WantT.use h l1 hp h1
  | false => exact WantT.use h l1 hp h1
theorem sw_or (ha : PT X a (tet F c1 c0 W ca)) (hb : PW X (.BoolOp .Or (b :: rest) pos) (tet F c1 c0 W (.or ces))) : PW X (.BoolOp .Or (a :: b :: rest) pos) (tet F c1 c0 W (.or (.cons ca ces))) := by
  have pw := pw_or ha hb
  refine ⟨fun wh pins s σ H Q I h => pw.run wh pins s σ H Q I ?_⟩
  obtain ⟨G, S, T, hs, h⟩ := tet_iff.mp h
  refine part_tt hs (hOr ces) h fun b H1 G1 S1 h1 l1 s1 h => ?_
  cases b with
  | false =>
    rw [if_neg (by decide)]
    refine tet_iff.mpr ⟨G1, S1, T, h1, ?_⟩
    exact WantT.mono h l1 fun z => by
      rw [pur, purs, Bool.and_eq_true] at z
      exact ⟨z.2, s1 z.1⟩
  | true =>
    rw [if_pos rfl]
    exact WantT.use h l1 (fun z => s1 (by rw [pur, purs, Bool.and_eq_true] at z; exact z.1)) h1
/-! ### not, if -/
theorem sn_not (ha : PE X a (tev F c1 c0 W ca)) : PE X (.UnaryOp .Not a pos) (tev F c1 c0 W (.not ca)) := by
  refine PE.imp (pe_not ha) fun σ H Q h => ?_
  obtain ⟨G, S, T, hs, h⟩ := tev_iff.mp h
  exact part_v hs hNot h fun b H1 G1 S1 h1 l1 s1 h => ⟨b, rfl, Wants.use h l1 s1 (h1.val (.bl (!b)))⟩
theorem st_not (ha : PT X a (tet F c1 c0 W ca)) : PT X (.UnaryOp .Not a pos) (tet F c1 c0 W (.not ca)) := by
  refine PT.imp (pt_not ha) fun σ H Q h => ?_
  obtain ⟨G, S, T, hs, h⟩ := tet_iff.mp h
  exact part_tt hs hNot h fun b H1 G1 S1 h1 l1 s1 h => WantT.use h l1 s1 h1
theorem sn_ite (hc : PT X c (tet F c1 c0 W cc)) (ha : PE X a (tev F c1 c0 W ca)) (hb : PE X b (tev F c1 c0 W cb)) : PE X (.IfExp c a b pos) (tev F c1 c0 W (.ite cc ca cb)) := by
  refine PE.imp (pe_ifExp hc ha hb) fun σ H Q h => ?_
  obtain ⟨G, S, T, hs, h⟩ := tev_iff.mp h
  refine part_t hs (hIte ca cb) h fun b H1 G1 S1 h1 l1 s1 h => ?_
  cases b with
  | true =>
    rw [if_pos rfl]
    refine tev_iff.mpr ⟨G1, S1, T, h1, Wants.mono h l1 fun z => ?_⟩
    rw [pur, Bool.and_eq_true, Bool.and_eq_true] at z
    exact ⟨z.1.2, s1 z.1.1⟩
  | false =>
    rw [if_neg (by decide)]
    refine tev_iff.mpr ⟨G1, S1, T, h1, Wants.mono h l1 fun z => ?_⟩
    rw [pur, Bool.and_eq_true, Bool.and_eq_true] at z
    exact ⟨z.2, s1 z.1.1⟩
def tIfT (t ta tb : TT) : TT := fun σ H Q => t σ H fun c H1 => if c = true then ta σ H1 Q else tb σ H1 Q
theorem st_ite (hc : PT X c (tet F c1 c0 W cc)) (ha : PT X a (tet F c1 c0 W ca)) (hb : PT X b (tet F c1 c0 W cb)) : PT X (.IfExp c a b pos) (tet F c1 c0 W (.ite cc ca cb)) := by
  refine ⟨fun pins s σ H Q I h => ?_⟩
  have h' : tIfT (tet F c1 c0 W cc) (tet F c1 c0 W ca) (tet F c1 c0 W cb) σ H Q := by
    obtain ⟨G, S, T, hs, h⟩ := tet_iff.mp h
    refine part_tt hs (hIte ca cb) h fun b H1 G1 S1 h1 l1 s1 h => ?_
    cases b with
    | true =>
      rw [if_pos rfl]
      refine tet_iff.mpr ⟨G1, S1, T, h1, WantT.mono h l1 fun z => ?_⟩
      rw [pur, Bool.and_eq_true, Bool.and_eq_true] at z
      exact ⟨z.1.2, s1 z.1.1⟩
    | false =>
      rw [if_neg (by decide)]
      refine tet_iff.mpr ⟨G1, S1, T, h1, WantT.mono h l1 fun z => ?_⟩
      rw [pur, Bool.and_eq_true, Bool.and_eq_true] at z
      exact ⟨z.2, s1 z.1.1⟩
  refine PyProof.Rows.isTrue_IfExp (thn (hc.run pins s σ H _ I h') fun d s1 ⟨H1, I1, q1⟩ => ?_)
  cases d with
  | true => exact ha.run pins s1 σ H1 Q I1 q1
  | false => exact hb.run pins s1 σ H1 Q I1 q1
end
end Tk
/- Snd11 -/
set_option Elab.async false
set_option linter.all false
set_option maxRecDepth 100000
set_option maxHeartbeats 1000000
namespace Tk
open PySem PySem.Spec PyProof.Rows L2
section
variable {F : Fx} {c1 c0 : CallFn} {W : WX} {G G' : Gh} {H H' : Hp} {σ : L2.St} {S S' : Sg} {T : List (V × M)} {X : Cx} {e e1 a b c o : Expr} {ca cb cc : CE} {es rest : List Expr} {ces : CEs} {pos p p2 apos : Pos}
def kChn (P : Prog) (c1 c0 : CallFn) (o1 o2 : Op) (c : CE) (x y : M) (S : Sg) : R M := match doOp P S.ob o1 [x, y] with
    | some (.val (.bl true)) => (ev P c1 c0 c S).bind fun z S => opt (doOp P S.ob o2 [y, z]) S
    | some (.val (.bl false)) => .ok (.val (.bl false)) S
    | _ => .bad
theorem chain_of {o1 o2 : Op} {r r' : R2} {pu : Bool} {Q : VK} (ok1 : Ok2 F o1 r) (ok2 : Ok2 F o2 r') (pa : pur ca = true) (pb : pur cb = true) (pc : pur cc = true) (hs : Stt F G H σ S T)
    (h : Wants F W G H σ T pu Q (ev F.PG c1 c0 (.chn o1 o2 ca cb cc) S)) : tChain r r' (tevO F c1 c0 W ca) (tevO F c1 c0 W cb) (tevO F c1 c0 W cc) σ H Q := by
  have e0 : ev F.PG c1 c0 (.chn o1 o2 ca cb cc) S = (ev F.PG c1 c0 ca S).bind fun x S => (ev F.PG c1 c0 cb S).bind fun y S => kChn F.PG c1 c0 o1 o2 cc x y S := rfl
  rw [e0] at h
  have oab : Out F W G σ T ((ev F.PG c1 c0 ca S).bind fun m S => (ev F.PG c1 c0 cb S).bind fun d S => R.ok [m, d] S) := by
    cases q1 : ev F.PG c1 c0 ca S with
    | ok m S1 =>
      rw [q1] at h
      have h : Wants F W G H σ T pu Q ((ev F.PG c1 c0 cb S1).bind fun y S => kChn F.PG c1 c0 o1 o2 cc m y S) := h
      show Out F W G σ T ((ev F.PG c1 c0 cb S1).bind fun d S => R.ok [m, d] S)
      cases q2 : ev F.PG c1 c0 cb S1 with
      | ok n S2 => trivial
      | exc x fs S2 => rw [q2] at h; exact h
      | bad => rw [q2] at h; exact h.elim
    | exc x fs S1 => rw [q1] at h; exact h
    | bad => rw [q1] at h; exact h.elim
  refine two_opd (fun _ => pb) hs oab fun x y H2 G2 S2 m1 m2 f g e2 l2 s2 r1 r2 h2 => ?_
  have h : Wants F W G H σ T pu Q (kChn F.PG c1 c0 o1 o2 cc m1 m2 S2) := by
    cases q1 : ev F.PG c1 c0 ca S with
    | ok m S1 =>
      rw [q1] at h e2
      have h : Wants F W G H σ T pu Q ((ev F.PG c1 c0 cb S1).bind fun y S => kChn F.PG c1 c0 o1 o2 cc m y S) := h
      have e2 : ((ev F.PG c1 c0 cb S1).bind fun d S => R.ok [m, d] S) = .ok [m1, m2] S2 := e2
      cases q2 : ev F.PG c1 c0 cb S1 with
      | ok n S3 => rw [q2] at h e2; cases e2; exact h
      | exc _ _ _ => rw [q2] at e2; cases e2
      | bad => rw [q2] at e2; cases e2
    | exc _ _ _ => rw [q1] at e2; cases e2
    | bad => rw [q1] at e2; cases e2
  cases q : doOp F.PG S2.ob o1 [m1, m2] with
  | none => unfold kChn at h; rw [q] at h; exact h.elim
  | some mk =>
    refine ok1 G2 H2 σ S2 T x y m1 m2 mk f g _ h2 r1 r2 q fun V3 H3 res => ?_
    obtain ⟨G3, l3, h3⟩ := res.2 σ S2 T h2
    cases mk with
    | lst _ => unfold kChn at h; rw [q] at h; exact h.elim
    | dct _ => unfold kChn at h; rw [q] at h; exact h.elim
    | val d =>
      cases d with
      | bl k =>
        obtain ⟨f3, rv⟩ := h3.head
        obtain rfl := rm_bl rv
        refine ⟨k, rfl, ?_⟩
        cases k with
        | false =>
          rw [if_neg (by decide)]
          unfold kChn at h
          rw [q] at h
          exact Wants.use h (Gh.le_trans l2 l3) (fun _ => Same.tr (s2 pa pb) res.1) h3
        | true =>
          rw [if_pos rfl]
          have h : Wants F W G H σ T pu Q ((ev F.PG c1 c0 cc S2).bind fun z S => opt (doOp F.PG S.ob o2 [m2, z]) S) := by
            unfold kChn at h
            rw [q] at h
            exact h
          have oc : Out F W G3 σ T (ev F.PG c1 c0 cc S2) := by
            cases qc : ev F.PG c1 c0 cc S2 with
            | ok m S1 => trivial
            | exc x fs S1 => rw [qc] at h; exact Xk.mono h (Gh.le_trans l2 l3)
            | bad => rw [qc] at h; exact h.elim
          refine tevO_mono (tevO_of h3.tail oc) fun z H4 ⟨G4, m3, S4, e4, l4, s4, h4⟩ => ?_
          rw [e4] at h
          have h : Wants F W G H σ T pu Q (opt (doOp F.PG S4.ob o2 [m2, m3]) S4) := h
          have ry := r2.same h2.fh (Gh.le_trans l3 l4) (Same.tr res.1 (s4 pc))
          have hz : ∃ f4, Stt F G4 H4 σ S4 T ∧ RM F G4 H4 z m3 f4 := by
            by_cases pk : isPk cc = true
            · rw [if_pos pk] at h4
              exact ⟨_, h4.1, h4.2.choose_spec⟩
            · rw [if_neg pk] at h4
              obtain ⟨f4, r4⟩ := h4.head
              exact ⟨f4, h4.tail, r4⟩
          obtain ⟨f4, st4, r4⟩ := hz
          cases q2 : doOp F.PG S4.ob o2 [m2, m3] with
          | none => rw [q2] at h; exact h.elim
          | some mf =>
            rw [q2] at h
            refine ok2 G4 H4 σ S4 T y z m2 m3 mf g f4 Q st4 ry r4 q2 fun V5 H5 res5 => ?_
            obtain ⟨G5, l5, h5⟩ := res5.2 σ S4 T st4
            exact Wants.use h (Gh.le_trans (Gh.le_trans (Gh.le_trans l2 l3) l4) l5) (fun _ => Same.tr (Same.tr (Same.tr (s2 pa pb) res.1) (s4 pc)) res5.1) h5
      | _ => unfold kChn at h; rw [q] at h; exact h.elim
theorem sn_chn {o1 o2 : Op} {op op' : CmpOp} {r r' : R2} (ho : OpR X (compareOp op) r) (ho' : OpR X (compareOp op') r') (ok1 : Ok2 F o1 r) (ok2 : Ok2 F o2 r') (pa : pur ca = true) (pb : pur cb = true) (pc : pur cc = true)
    (ha : PE X a (tevO F c1 c0 W ca)) (hb : PE X b (tevO F c1 c0 W cb)) (hc : PE X c (tevO F c1 c0 W cc)) (hm : lastMarks [op, op'] [b, c] = false) : PE X (.Compare a [op, op'] [b, c] pos) (tev F c1 c0 W (.chn o1 o2 ca cb cc)) := by
  refine PE.imp (pe_chain ho ho' ha hb hc hm) fun σ H Q h => ?_
  obtain ⟨G, S, T, hs, h⟩ := tev_iff.mp h
  exact chain_of ok1 ok2 pa pb pc hs h
theorem st_chn {o1 o2 : Op} {op op' : CmpOp} {r r' : R2} (ho : OpR X (compareOp op) r) (ho' : OpR X (compareOp op') r') (ok1 : Ok2 F o1 r) (ok2 : Ok2 F o2 r') (pa : pur ca = true) (pb : pur cb = true) (pc : pur cc = true)
    (ha : PE X a (tevO F c1 c0 W ca)) (hb : PE X b (tevO F c1 c0 W cb)) (hc : PE X c (tevO F c1 c0 W cc)) (hm : lastMarks [op, op'] [b, c] = false) : PT X (.Compare a [op, op'] [b, c] pos) (tet F c1 c0 W (.chn o1 o2 ca cb cc)) := by
  refine PT.imp (pt_chain ho ho' ha hb hc hm) fun σ H Q h => ?_
  obtain ⟨G, S, T, hs, h⟩ := tev_iff.mp (tet_tev h)
  exact chain_of ok1 ok2 pa pb pc hs h
end
end Tk
/- Snd12 -/
set_option Elab.async false
set_option linter.all false
set_option maxRecDepth 100000
set_option maxHeartbeats 1000000
namespace Tk
open PySem PySem.Spec PyProof.Rows L2
/-- what a def of the core promises -/
def spF (F : Fx) (cf : CallFn) (f : Nat) : Sp := fun vs H Q E => ∃ G ds ob T, RepDs F.P F.w F.K G H vs ds ∧ Rp F.P F.w F.K F.c G H T ob ∧ match cf f ds ob with
  | .ok m ob' => ∀ V H' G', G.le G' → Rp F.P F.w F.K F.c G' H' ((V, m) :: T) ob' → Q V H'
  | .exc x fs ob' => ∀ cls d H' G', G.le G' → Rp F.P F.w F.K F.c G' H' T ob' → XR F G' H' cls d x fs → E cls d H'
  | .bad => False
/-- the defs at a level -/
def Lv (F : Fx) (k : Nat) (cf : CallFn) : Prop := ∀ f Fn, F.PG.fn f = some Fn → ∃ fd ps, FnOk F.P F.w F.K F.mg F.base (L2.CX F.P F.w) k (F.fa f) fd ps (spF F cf f) ∧ PySem.W.keepIn F.K (.ref (F.fa f)) = true ∧ Binds F.K fd ps []
/-- the classes -/
structure ClF (F : Fx) : Prop where
  mak : ∀ C cl, F.PG.cl C = some cl → Mk F.K (F.c.ca C) (F.fa cl.init)
  cx : ∀ C cl, F.PG.cl C = some cl → ClX F.K (F.c.ca C)
  me : ∀ C cl m f, F.PG.cl C = some cl → cl.ms.lookup m = some f → Meth F.K (F.c.ca C) (F.c.nm m) (F.fa f)
  na : ∀ C cl f, F.PG.cl C = some cl → f ∈ cl.fl → NoAttr F.K (F.c.ca C) (F.c.nm f)
/-- the context, all of it -/
structure Atx (F : Fx) (X : Cx) : Prop extends At F X where
  base : X.base = F.base
  calm : X.calm = true
  nd : X.N.Nodup
section
variable {F : Fx} {c1 c0 : CallFn} {W : WX} {G G' : Gh} {H H' : Hp} {σ : L2.St} {S S' : Sg} {T : List (V × M)} {X : Cx} {e e1 a b c o : Expr} {ca cb cc : CE} {es rest : List Expr} {ces : CEs} {pos p p2 apos : Pos} {k j : Nat} {x : Str}
theorem Atx.fn (hX : Atx F X) {cf : CallFn} (L : Lv F k cf) {f : Nat} {Fn : Fn} (hf : F.PG.fn f = some Fn) :
    ∃ fd ps, FnOk X.prog X.w X.K X.mg X.base (L2.CX X.prog X.w) k (F.fa f) fd ps (spF F cf f) ∧ PySem.W.keepIn X.K (.ref (F.fa f)) = true ∧ Binds X.K fd ps [] := by
  obtain ⟨fd, ps, h⟩ := L f Fn hf
  refine ⟨fd, ps, ?_⟩
  rw [hX.P, hX.w, hX.K, hX.mg, hX.base]
  exact h
theorem pe_callS0 {f : Addr} {fd : FuncData} {ps : List Str} {sp : Sp} {E : L2.St → XK} {CX : CXT} (F : FnOk X.prog X.w X.K X.mg X.base CX k f fd ps sp) (hr : Room k X.A) (hg : Gl X x) (hm : X.mg x = some (.ref f)) (hk : PySem.W.keepIn X.K (.ref f) = true) (hb : Binds X.K fd ps []) (hx : ∀ σ, PassesAt CX X σ (E σ))
    (hdb : (x == ("__debug__" : Str)) = false) : PE X (.Call (.Name x p) [] [] pos) (tCallS sp E tNil) := by
  refine ⟨fun pins s σ H Q I h => ?_⟩
  refine wpAny_Call_Name_kw (ld_glob I hg hm ?_ hdb)
  exact PySem.W.callWith_K0 I.kIn hk (run_fnS (us := []) F hr hb (hx σ) I .nil h)
/-- what a call leaves -/
theorem r_cases {r : Rc} {sl : List (Option M)} {pu : Bool} {Q : VK} (h : Wants F W G H σ T pu Q (r.r sl)) : (∃ m ob, r = .ok m ob ∧ ∀ V H' G', G.le G' → (pu = true → Same H H') → Stt F G' H' σ ⟨sl, ob⟩ ((V, m) :: T) → Q V H') ∨ (∃ x fs ob, r = .exc x fs ob ∧ Xk F W G σ T x fs ⟨sl, ob⟩) := by
  cases r with
  | ok m ob => exact .inl ⟨m, ob, rfl, h⟩
  | exc x fs ob => exact .inr ⟨x, fs, ob, rfl, h⟩
  | bad => exact h.elim
/-- the promise of a def, from what is wanted -/
theorem sp_of {cf : CallFn} {f : Nat} {vs : List V} {ds : List D} {L : List (V × M)} {Q : VK} {ob : List Ob} {sl : List (Option M)} (hsl : SlR σ sl L) (rd : RepDs F.P F.w F.K G H vs ds) (rp : Rp F.P F.w F.K F.c G H (L ++ T) ob)
    (h : Wants F W G H σ T false Q ((cf f ds ob).r sl)) : spF F cf f vs H Q (WE W σ) := by
  refine ⟨G, ds, ob, L ++ T, rd, rp, ?_⟩
  cases q : cf f ds ob with
  | ok m ob' =>
    rw [q] at h
    exact fun V H' G' le r => h V H' G' le (fun z => by cases z) ⟨L, hsl, Rp.outT.mpr r⟩
  | exc x fs ob' =>
    rw [q] at h
    exact fun cls d H' G' le r xr => h cls d H' G' le ⟨L, hsl, r⟩ xr
  | bad => rw [q] at h; exact h.elim
theorem args_of {Q : VK} {K : List M → Sg → R M} {Z : List V → Hp → Prop} (hs : Stt F G H σ S T) (h : Wants F W G H σ T false Q ((evs F.PG c1 c0 ces S).bind K))
    (k : ∀ vs H1 G1 ms S1 L, SlR σ S1.sl L → Rp F.P F.w F.K F.c G1 H1 (L ++ T) S1.ob → G.le G1 → RepDs F.P F.w F.K G1 H1 vs (M.fzs ms) → Wants F W G1 H1 σ T false Q (K ms S1) → Z vs H1) : tevs F c1 c0 W ces σ H Z := by
  have o1 : Out F W G σ T (evs F.PG c1 c0 ces S) := by
    cases q : evs F.PG c1 c0 ces S with
    | ok m S1 => trivial
    | exc x fs S1 => rw [q] at h; exact h
    | bad => rw [q] at h; exact h
  refine tevs_mono (tevs_of hs o1) fun vs H1 ⟨G1, ms, S1, e1, l1, s1, ln, h1⟩ => ?_
  rw [e1] at h
  have h : Wants F W G H σ T false Q (K ms S1) := h
  obtain ⟨L, sl, rp⟩ := h1
  have rp' : Rp F.P F.w F.K F.c G1 H1 (vs.zip ms ++ (L ++ T)) S1.ob := rp.perm (by
    rw [← List.append_assoc, ← List.append_assoc]
    exact List.Perm.append_right _ List.perm_append_comm)
  obtain ⟨G2, l2, r2, rd⟩ := rp'.freezes ln
  exact k vs H1 G2 ms S1 L sl r2 (Gh.le_trans l1 l2) rd (Wants.mono h (Gh.le_trans l1 l2) fun z => by cases z)
theorem call_of {f : Nat} {Q : VK} (h : tev F c1 c0 W (.call f ces) σ H Q) : tCallS (spF F c1 f) (WE W) (tevs F c1 c0 W ces) σ H Q := by
  obtain ⟨G, S, T, hs, h⟩ := tev_iff.mp h
  exact args_of (K := fun ms S => (c1 f (M.fzs ms) S.ob).r S.sl) hs h fun vs H1 G1 ms S1 L sl rp l1 rd h => sp_of sl rd rp h
theorem sn_call {f : Nat} {Fn : Fn} (hX : Atx F X) (L : Lv F k c1) (hr : Room k X.A) (tk : Takes X W) (hf : F.PG.fn f = some Fn) (hg : Gl X x) (hm : X.mg x = some (.ref (F.fa f))) (ha : PA X (e :: es) (tevs F c1 c0 W ces)) (hdb : (x == ("__debug__" : Str)) = false)
    (he : starEach (e :: es) X.env = (false, eval e X.env) :: starEach es X.env) (hpl : (backTo pos (starEach es X.env)).any (·.1) = false) : PE X (.Call (.Name x p) (e :: es) [] pos) (tev F c1 c0 W (.call f ces)) := by
  obtain ⟨fd, ps, F1, kp, bs⟩ := hX.fn L hf
  exact PE.imp (pe_callS F1 hr hg hm kp bs (fun σ => passAt tk σ) ha hdb he hpl) fun σ H Q h => call_of h
theorem sn_call0 {f : Nat} {Fn : Fn} (hX : Atx F X) (L : Lv F k c1) (hr : Room k X.A) (tk : Takes X W) (hf : F.PG.fn f = some Fn) (hg : Gl X x) (hm : X.mg x = some (.ref (F.fa f))) (hdb : (x == ("__debug__" : Str)) = false) :
    PE X (.Call (.Name x p) [] [] pos) (tev F c1 c0 W (.call f .nil)) := by
  obtain ⟨fd, ps, F1, kp, bs⟩ := hX.fn L hf
  refine PE.imp (pe_callS0 F1 hr hg hm kp bs (fun σ => passAt tk σ) hdb) fun σ H Q h => ?_
  have z := call_of h
  obtain ⟨G, S, T, hs, z⟩ := z
  exact z [] H G (Gh.le_refl G) (fun _ => Same.rfl') rfl hs
/-! ### methods -/
/-- o.m(..), the class of o as it comes -/
def tMethA (K : PySem.W.Frag) (CX : CXT) (X : Cx) (k : Nat) (m : Str) (E : L2.St → XK) (ta : TE) (t : TA) : TE := fun σ H Q => ta σ H fun x H1 => ∃ (a dx C f : Addr) (fs : List (Str × V)) (fd : FuncData) (ps : List Str) (sp : Sp), x = .ref a ∧ H1 a = some (.ins C dx fs) ∧ fs.lookup m = none ∧
  Cls K C ∧ Meth K C m f ∧ FnOk X.prog X.w X.K X.mg X.base CX k f fd ps sp ∧ Binds X.K fd ps [] ∧ t σ H1 fun vs H2 => sp (x :: vs) H2 Q (E σ)
theorem pe_methA {CX : CXT} {m : Str} {E : L2.St → XK} {ta : TE} {t : TA} {pl : Sem Bool} (he : PE X o ta) (hr : Room k X.A) (hx : ∀ σ, PassesAt CX X σ (E σ)) (ha : PA X (e :: es) t)
    (hst : starEach (e :: es) X.env = (false, eval e X.env) :: starEach es X.env) (hpl : (backTo pos (starEach es X.env)).any (·.1) = false)
    (ht : eval (.Call (.Attribute o m apos) (e :: es) [] pos) X.env = (do
      let ov ← eval o X.env
      standAt apos.atName
      let (f, first) ← holding [ov] (getMethod ov m pl)
      callWith pos f first (backTo pos (starEach (e :: es) X.env)) (backToKw pos (keywordEach [] X.env)))) :
    PE X (.Call (.Attribute o m apos) (e :: es) [] pos) (tMethA X.K CX X k m E ta t) := by
  refine ⟨fun pins s σ H Q I h => ?_⟩
  refine PySem.W.methodCall_KW (pl := pl) (thn (he.run pins s σ H _ I h) fun u s1 ⟨x, H1, I1, rx, a, dx, C, f, fs, fd, ps, sp, ex, ea, l, c, hm, F, hb, q⟩ => ?_) ht
  subst ex
  obtain rfl : u = Value.ref a := rx
  refine getmeth_ok I1 ea c hm l ?_
  refine PySem.W.callWith_K (first := [.ref a]) (h₀ := X.base) I.ok.mod.kin hm.kp (thn (ha.run pos pins s1 σ H1 _ I1 q) fun us s2 ⟨vs, H2, I2, r, q2⟩ => ⟨I2.kIn, ?_⟩) hst hpl
  exact run_fnS (us := .ref a :: us) (vs := .ref a :: vs) F hr hb (hx σ) I2 (.cons rfl r) q2
theorem pe_methA0 {CX : CXT} {m : Str} {E : L2.St → XK} {ta : TE} {pl : Sem Bool} (he : PE X o ta) (hr : Room k X.A) (hx : ∀ σ, PassesAt CX X σ (E σ))
    (ht : eval (.Call (.Attribute o m apos) [] [] pos) X.env = (do
      let ov ← eval o X.env
      standAt apos.atName
      let (f, first) ← holding [ov] (getMethod ov m pl)
      callWith pos f first (backTo pos (starEach [] X.env)) (backToKw pos (keywordEach [] X.env)))) :
    PE X (.Call (.Attribute o m apos) [] [] pos) (tMethA X.K CX X k m E ta tNil) := by
  refine ⟨fun pins s σ H Q I h => ?_⟩
  refine PySem.W.methodCall_KW (pl := pl) (thn (he.run pins s σ H _ I h) fun u s1 ⟨x, H1, I1, rx, a, dx, C, f, fs, fd, ps, sp, ex, ea, l, c, hm, F, hb, q⟩ => ?_) ht
  subst ex
  obtain rfl : u = Value.ref a := rx
  refine getmeth_ok I1 ea c hm l ?_
  exact PySem.W.callWith_K0 (first := [.ref a]) I1.kIn hm.kp (run_fnS (us := [.ref a]) (vs := [.ref a]) F hr hb (hx σ) I1 (.cons rfl .nil) q)
theorem methOf_of {d : M} {m f : Nat} {v : V} {g : List Addr} (CF : ClF F) (hs : Stt F G H σ S T) (r : RM F G H v d g) (h : methOf F.PG S.ob d m = some f) :
    ∃ a dx C fs, v = .ref a ∧ H a = some (.ins C dx fs) ∧ fs.lookup (F.c.nm m) = none ∧ Cls F.K C ∧ Meth F.K C (F.c.nm m) (F.fa f) ∧ ∃ i, d = .val (.obj i) := by
  cases d with
  | val d =>
    cases d <;> first | (cases h; done) | skip
    rename_i i
    obtain ⟨o, e1, e2⟩ := Option.bind_eq_some_iff.mp (show ((S.ob[i]?).bind fun o => (F.PG.cl o.cls).bind fun c => if (getF m o.fs).isSome then none else c.ms.lookup m) = some f from h)
    obtain ⟨cl, e3, e4⟩ := Option.bind_eq_some_iff.mp e2
    cases r with
    | val r =>
      cases r with
      | @obj _ a dx h1 =>
        obtain ⟨a', dx', fs, g', q1, q2, q3, q4⟩ := hs.obs e1
        rw [h1] at q1; cases q1
        cases q : getF m o.fs with
        | some y => rw [q] at e4; cases e4
        | none =>
          rw [q] at e4
          exact ⟨a, dx, _, fs, rfl, q2, q4.none F.inj q, q3.cl, CF.me o.cls cl m f e3 e4, i, rfl⟩
  | lst _ => cases h
  | dct _ => cases h
theorem meth_wants {m : Nat} {Q : VK} (CF : ClF F) (hX : Atx F X) (L : Lv F k c1) (hfn : ∀ C cl m f, F.PG.cl C = some cl → cl.ms.lookup m = some f → ∃ Fn, F.PG.fn f = some Fn) (h : tev F c1 c0 W (.meth m ca ces) σ H Q) :
    tMethA X.K (L2.CX X.prog X.w) X k (F.c.nm m) (WE W) (tev F c1 c0 W ca) (tevs F c1 c0 W ces) σ H Q := by
  obtain ⟨G, S, T, hs, h⟩ := tev_iff.mp h
  have e0 : ev F.PG c1 c0 (.meth m ca ces) S = (ev F.PG c1 c0 ca S).bind fun d S => match methOf F.PG S.ob d m with
    | some f => (evs F.PG c1 c0 ces S).bind fun ms S => (c1 f (d.fz :: M.fzs ms) S.ob).r S.sl
    | none => .bad := rfl
  rw [e0] at h
  have o1 : Out F W G σ T (ev F.PG c1 c0 ca S) := by
    cases q : ev F.PG c1 c0 ca S with
    | ok m S1 => trivial
    | exc x fs S1 => rw [q] at h; exact h
    | bad => rw [q] at h; exact h
  refine tev_mono (tev_of hs o1) fun x H1 ⟨G1, d, S1, e1, l1, s1, h1⟩ => ?_
  rw [e1] at h
  have h : Wants F W G H σ T false Q (match methOf F.PG S1.ob d m with
    | some f => (evs F.PG c1 c0 ces S1).bind fun ms S => (c1 f (d.fz :: M.fzs ms) S.ob).r S.sl
    | none => .bad) := h
  cases q : methOf F.PG S1.ob d m with
  | none => rw [q] at h; exact h.elim
  | some f =>
    rw [q] at h
    have h : Wants F W G H σ T false Q ((evs F.PG c1 c0 ces S1).bind fun ms S => (c1 f (d.fz :: M.fzs ms) S.ob).r S.sl) := h
    obtain ⟨g, r⟩ := h1.head
    obtain ⟨a, dx, C, fs, rfl, z1, z2, z3, z4, i, rfl⟩ := methOf_of CF h1 r q
    obtain ⟨Fn, hf⟩ : ∃ Fn, F.PG.fn f = some Fn := by
      obtain ⟨o, e1, e2⟩ := Option.bind_eq_some_iff.mp (show ((S1.ob[i]?).bind fun o => (F.PG.cl o.cls).bind fun c => if (getF m o.fs).isSome then none else c.ms.lookup m) = some f from q)
      obtain ⟨cl, e3, e4⟩ := Option.bind_eq_some_iff.mp e2
      split at e4
      · cases e4
      · exact hfn _ cl m f e3 e4
    obtain ⟨fd, ps, F1, kp, bs⟩ := hX.fn L hf
    refine ⟨a, dx, C, F.fa f, fs, fd, ps, _, rfl, z1, z2, hX.K ▸ z3, hX.K ▸ z4, F1, bs, ?_⟩
    have rv : RD F G1 H1 (.ref a) (.obj i) := by cases r with | val r => exact r
    refine args_of (K := fun ms S => (c1 f (M.fz (.val (.obj i)) :: M.fzs ms) S.ob).r S.sl) h1.tail (Wants.mono (pu := false) (pv := false) h l1 fun z => by cases z) fun vs H2 G2 ms S2 L2 sl rp l2 rd h => ?_
    refine sp_of sl (.cons ?_ rd) rp h
    cases rv with
    | obj h0 =>
      obtain ⟨l, e⟩ := l2.2
      exact .obj (by rw [e]; exact List.getElem?_append_left (List.getElem?_eq_some_iff.mp h0).1 ▸ h0)
theorem sn_meth {m : Nat} {pl : Sem Bool} (CF : ClF F) (hX : Atx F X) (L : Lv F k c1) (hr : Room k X.A) (tk : Takes X W) (hfn : ∀ C cl m f, F.PG.cl C = some cl → cl.ms.lookup m = some f → ∃ Fn, F.PG.fn f = some Fn)
    (ho : PE X o (tev F c1 c0 W ca)) (ha : PA X (e :: es) (tevs F c1 c0 W ces)) (hst : starEach (e :: es) X.env = (false, eval e X.env) :: starEach es X.env) (hpl : (backTo pos (starEach es X.env)).any (·.1) = false)
    (ht : eval (.Call (.Attribute o (F.c.nm m) apos) (e :: es) [] pos) X.env = (do
      let ov ← eval o X.env
      standAt apos.atName
      let (f, first) ← holding [ov] (getMethod ov (F.c.nm m) pl)
      callWith pos f first (backTo pos (starEach (e :: es) X.env)) (backToKw pos (keywordEach [] X.env)))) :
    PE X (.Call (.Attribute o (F.c.nm m) apos) (e :: es) [] pos) (tev F c1 c0 W (.meth m ca ces)) :=
  PE.imp (pe_methA ho hr (fun σ => passAt tk σ) ha hst hpl ht) fun σ H Q h => meth_wants CF hX L hfn h
theorem sn_meth0 {m : Nat} {pl : Sem Bool} (CF : ClF F) (hX : Atx F X) (L : Lv F k c1) (hr : Room k X.A) (tk : Takes X W) (hfn : ∀ C cl m f, F.PG.cl C = some cl → cl.ms.lookup m = some f → ∃ Fn, F.PG.fn f = some Fn)
    (ho : PE X o (tev F c1 c0 W ca))
    (ht : eval (.Call (.Attribute o (F.c.nm m) apos) [] [] pos) X.env = (do
      let ov ← eval o X.env
      standAt apos.atName
      let (f, first) ← holding [ov] (getMethod ov (F.c.nm m) pl)
      callWith pos f first (backTo pos (starEach [] X.env)) (backToKw pos (keywordEach [] X.env)))) :
    PE X (.Call (.Attribute o (F.c.nm m) apos) [] [] pos) (tev F c1 c0 W (.meth m ca .nil)) :=
  PE.imp (pe_methA0 ho hr (fun σ => passAt tk σ) ht) fun σ H Q h => by
    have z := meth_wants CF hX L hfn h
    refine tev_mono z fun x H1 ⟨a, dx, C, f, fs, fd, ps, sp, z1, z2, z3, z4, z5, z6, z7, z8⟩ => ⟨a, dx, C, f, fs, fd, ps, sp, z1, z2, z3, z4, z5, z6, z7, ?_⟩
    obtain ⟨G, S, T, hs, z8⟩ := z8
    exact z8 [] H1 G (Gh.le_refl G) (fun _ => Same.rfl') rfl hs
/-! ### new instances -/
def tMakeS (C : Addr) (sp : Sp) (E : L2.St → XK) (t : TA) : TE := fun σ H Q => t σ H fun vs H1 => ∀ x dx, H1 x = none → H1 dx = none → dx ≠ x →
  sp (.ref x :: vs) (upd (upd H1 dx (.own x)) x (.ins C dx [])) (fun v H2 => v = .non ∧ Q (.ref x) H2) (E σ)
theorem run_makeS {CX : CXT} {C f : Addr} {fd : FuncData} {ps : List Str} {sp : Sp} {E : XK} {pins : List (Addr × Obj)} {s : Shared} {Q : VK} {us : List Value} {vs : List V} (M : Mk X.K C f) (F : FnOk X.prog X.w X.K X.mg X.base CX k f fd ps sp) (hr : Room (k + 1) X.A) (hb : Binds X.K fd ps [])
    (hx : PassesAt CX X σ E) (I : Inv X pins σ H s) (r : Vals vs us)
    (h : ∀ x dx, H x = none → H dx = none → dx ≠ x → sp (.ref x :: vs) (upd (upd H dx (.own x)) x (.ins C dx [])) (fun v H2 => v = .non ∧ Q (.ref x) H2) E) :
    wpAny (model X.prog X.w) X.A (call (.ref C) us) (EP X pins σ Q) X.xe s := by
  have hq := h (s.heap.objs.size + 1) s.heap.objs.size (I.hok.fresh (Nat.le_succ _)) (I.hok.fresh (Nat.le_refl _)) (Nat.ne_of_lt (Nat.lt_succ_self _))
  have I2 := Inv.made (C := C) I
  have r2 : Vals (V.ref (s.heap.objs.size + 1) :: vs) (Value.ref (s.heap.objs.size + 1) :: us) := .cons rfl r
  have hl : (Value.ref (s.heap.objs.size + 1) :: us).length = ps.length := by
    have e := r2.length
    rw [F.len _ _ _ _ hq] at e
    exact e.symm
  have hb' := hb _ (Value.ref (s.heap.objs.size + 1) :: us) I2.kIn (by rw [List.append_nil]; exact hl)
  rw [List.append_nil] at hb'
  refine wpAny_call (make_map (f := f) I.kIn M.makes M.init (beq_iff_eq.mp M.fn) (codeAny_mono (F.run _ X.stack _ _ ⟨Value.ref (s.heap.objs.size + 1) :: us, []⟩ (Value.ref (s.heap.objs.size + 1) :: us) _ _ E (hr.make C us [])
    (I2.env0.make C us []) hb' r2 hq) fun r s' hq' => ?_))
  cases r with
  | error e => exact hx pins _ _ e s' I2 hq'
  | ok fl =>
    cases fl with
    | ret u =>
      obtain ⟨v, H', I3, rv, ev, q3⟩ := I2.after hq'
      subst ev
      exact ⟨rv, ⟨V.ref (s.heap.objs.size + 1), H', I3, rfl, q3⟩⟩
    | next => exact False.elim hq'
    | brk => exact False.elim hq'
    | cont => exact False.elim hq'
theorem pe_makeS {CX : CXT} {C f : Addr} {fd : FuncData} {ps : List Str} {sp : Sp} {E : L2.St → XK} {t : TA} (M : Mk X.K C f) (F : FnOk X.prog X.w X.K X.mg X.base CX k f fd ps sp) (hr : Room (k + 1) X.A) (hg : Gl X x) (hm : X.mg x = some (.ref C)) (hb : Binds X.K fd ps []) (hx : ∀ σ, PassesAt CX X σ (E σ))
    (ha : PA X (e :: es) t) (hdb : (x == ("__debug__" : Str)) = false) (he : starEach (e :: es) X.env = (false, eval e X.env) :: starEach es X.env) (hpl : (backTo pos (starEach es X.env)).any (·.1) = false) :
    PE X (.Call (.Name x p) (e :: es) [] pos) (tMakeS C sp E t) := by
  refine ⟨fun pins s σ H Q I h => ?_⟩
  refine wpAny_Call_Name_kw (ld_glob I hg hm ?_ hdb)
  refine PySem.W.callWith_K (h₀ := X.base) I.ok.mod.kin M.kp (thn (ha.run pos pins s σ H _ I h) fun us s1 ⟨vs, H1, I1, r, q⟩ => ⟨I1.kIn, ?_⟩) he hpl
  exact run_makeS M F hr hb (hx σ) I1 r q
theorem pe_makeS0 {CX : CXT} {C f : Addr} {fd : FuncData} {ps : List Str} {sp : Sp} {E : L2.St → XK} (M : Mk X.K C f) (F : FnOk X.prog X.w X.K X.mg X.base CX k f fd ps sp) (hr : Room (k + 1) X.A) (hg : Gl X x) (hm : X.mg x = some (.ref C)) (hb : Binds X.K fd ps []) (hx : ∀ σ, PassesAt CX X σ (E σ))
    (hdb : (x == ("__debug__" : Str)) = false) : PE X (.Call (.Name x p) [] [] pos) (tMakeS C sp E tNil) := by
  refine ⟨fun pins s σ H Q I h => ?_⟩
  refine wpAny_Call_Name_kw (ld_glob I hg hm ?_ hdb)
  exact PySem.W.callWith_K0 I.kIn M.kp (run_makeS (us := []) M F hr hb (hx σ) I .nil h)
theorem make_of {C : Nat} {cl : Cl} {Q : VK} (CF : ClF F) (hc : F.PG.cl C = some cl) (h : tev F c1 c0 W (.make C ces) σ H Q) : tMakeS (F.c.ca C) (spF F c0 cl.init) (WE W) (tevs F c1 c0 W ces) σ H Q := by
  obtain ⟨G, S, T, hs, h⟩ := tev_iff.mp h
  have h : Wants F W G H σ T false Q ((evs F.PG c1 c0 ces S).bind fun ms S => match F.PG.cl C with
    | some cl => (match c0 cl.init (.obj S.ob.length :: M.fzs ms) (S.ob ++ [⟨C, []⟩]) with
      | .ok (.val .non) ob => .ok (.val (.obj S.ob.length)) ⟨S.sl, ob⟩
      | .ok _ _ => .bad
      | .exc c fs ob => .exc c fs ⟨S.sl, ob⟩
      | .bad => .bad)
    | none => .bad) := h
  rw [hc] at h
  refine args_of (K := fun ms S => match c0 cl.init (.obj S.ob.length :: M.fzs ms) (S.ob ++ [⟨C, []⟩]) with
      | .ok (.val .non) ob => .ok (.val (.obj S.ob.length)) ⟨S.sl, ob⟩
      | .ok _ _ => .bad
      | .exc c fs ob => .exc c fs ⟨S.sl, ob⟩
      | .bad => .bad) hs h fun vs H1 G1 ms S1 L sl rp l1 rd h => fun x dx hx hd ne => ?_
  have rp2 := rp.new_ob (C := C) (CF.cx C cl hc) hx hd ne
  have hlen : G1.ob.length = S1.ob.length := by
    obtain ⟨_, _, q⟩ := rp
    exact q.o.len
  have le : G1.le ⟨G1.fz, G1.ob ++ [(x, dx)]⟩ := ⟨fun _ z => z, _, rfl⟩
  have keep : ∀ a, G1.fz a → (upd (upd H1 dx (.own x)) x (.ins (F.c.ca C) dx [])) a = H1 a := fun a z => by
    have := rp.fh a z
    rw [upd_ne (fun e : a = x => this (by rw [e]; exact hx)), upd_ne (fun e : a = dx => this (by rw [e]; exact hd))]
  refine ⟨_, .obj S1.ob.length :: M.fzs ms, S1.ob ++ [⟨C, []⟩], L ++ T, .cons ?_ (rd.mono le keep), rp2, ?_⟩
  · refine .obj (dx := dx) ?_
    show (G1.ob ++ [(x, dx)])[S1.ob.length]? = some (x, dx)
    rw [← hlen]
    simp
  · cases q : c0 cl.init (.obj S1.ob.length :: M.fzs ms) (S1.ob ++ [⟨C, []⟩]) with
    | ok m ob' =>
      rw [q] at h
      cases m with
      | lst _ => exact h.elim
      | dct _ => exact h.elim
      | val d =>
        cases d with
        | non =>
          have h : ∀ V H' G', G1.le G' → (false = true → Same H1 H') → Stt F G' H' σ ⟨S1.sl, ob'⟩ ((V, .val (.obj S1.ob.length)) :: T) → Q V H' := h
          intro V H' G' l2 r
          obtain ⟨f, rv⟩ := r.head
          obtain rfl := rm_non rv
          refine ⟨rfl, h (.ref x) H' G' (Gh.le_trans le l2) (fun z => by cases z) ⟨L, sl, Rp.outT.mpr (r.tail.val ?_)⟩⟩
          obtain ⟨l, e⟩ := l2.2
          refine .obj (dx := dx) ?_
          rw [e]
          show ((G1.ob ++ [(x, dx)]) ++ l)[S1.ob.length]? = some (x, dx)
          rw [← hlen]
          simp
        | _ => exact h.elim
    | exc y fs ob' =>
      rw [q] at h
      exact fun cls d H' G' l2 r xr => h cls d H' G' (Gh.le_trans le l2) ⟨L, sl, r⟩ xr
    | bad => rw [q] at h; exact h.elim
theorem Atx.mkOf (hX : Atx F X) {C f : Addr} (h : Mk F.K C f) : Mk X.K C f := hX.K ▸ h
theorem sn_make {C : Nat} {cl : Cl} {Fn : Fn} (CF : ClF F) (hX : Atx F X) (L : Lv F k c0) (hr : Room (k + 1) X.A) (tk : Takes X W) (hc : F.PG.cl C = some cl) (hf : F.PG.fn cl.init = some Fn) (hg : Gl X x) (hm : X.mg x = some (.ref (F.c.ca C))) (ha : PA X (e :: es) (tevs F c1 c0 W ces)) (hdb : (x == ("__debug__" : Str)) = false)
    (he : starEach (e :: es) X.env = (false, eval e X.env) :: starEach es X.env) (hpl : (backTo pos (starEach es X.env)).any (·.1) = false) : PE X (.Call (.Name x p) (e :: es) [] pos) (tev F c1 c0 W (.make C ces)) := by
  obtain ⟨fd, ps, F1, kp, bs⟩ := hX.fn L hf
  exact PE.imp (pe_makeS (hX.mkOf (CF.mak C cl hc)) F1 hr hg hm bs (fun σ => passAt tk σ) ha hdb he hpl) fun σ H Q h => make_of CF hc h
theorem sn_make0 {C : Nat} {cl : Cl} {Fn : Fn} (CF : ClF F) (hX : Atx F X) (L : Lv F k c0) (hr : Room (k + 1) X.A) (tk : Takes X W) (hc : F.PG.cl C = some cl) (hf : F.PG.fn cl.init = some Fn) (hg : Gl X x) (hm : X.mg x = some (.ref (F.c.ca C))) (hdb : (x == ("__debug__" : Str)) = false) :
    PE X (.Call (.Name x p) [] [] pos) (tev F c1 c0 W (.make C .nil)) := by
  obtain ⟨fd, ps, F1, kp, bs⟩ := hX.fn L hf
  refine PE.imp (pe_makeS0 (hX.mkOf (CF.mak C cl hc)) F1 hr hg hm bs (fun σ => passAt tk σ) hdb) fun σ H Q h => ?_
  have z := make_of CF hc h
  obtain ⟨G, S, T, hs, z⟩ := z
  exact z [] H G (Gh.le_refl G) (fun _ => Same.rfl') rfl hs
end
end Tk
/- Snd13 -/
set_option Elab.async false
set_option linter.all false
set_option maxRecDepth 100000
set_option maxHeartbeats 1000000
namespace Tk
open PySem PySem.Spec PyProof.Rows L2
section
variable {F : Fx} {c1 c0 : CallFn} {W : WX} {G G' : Gh} {H H' : Hp} {σ : L2.St} {S S' : Sg} {T : List (V × M)} {X : Cx} {e e1 a b c o : Expr} {ca cb cc : CE} {es rest : List Expr} {ces : CEs} {pos p p2 apos : Pos} {k j : Nat} {x : Str}
/-! ### targets -/
def gNs : List Nat → TGs
  | [] => gNil
  | i :: is => gCons (gName i) (gNs is)
def gT (K : PySem.W.Frag) (tg : List Nat) (one : Bool) : TG := if one then (match tg with | [i] => gName i | _ => fun _ _ _ _ => False) else gTup K tg.length (gNs tg)
theorem Stt.put {x : V} {m : M} (h : Stt F G H σ S ((x, m) :: T)) (i : Nat) : ∃ S', S' = (⟨setSl S.sl i m, S.ob⟩ : Sg) ∧ Stt F G H (σ.set i (some x)) S' T := by
  refine ⟨_, rfl, ?_⟩
  obtain ⟨L, sl, rp⟩ := h
  by_cases hi : i < S.sl.length
  · obtain ⟨l1, old, l2, e, r⟩ := sl.put hi x m
    subst e
    refine ⟨_, r, Rp.out.mpr ?_⟩
    have rp2 := Rp.outT.mp rp
    -- the old one goes
    have p : ((x, m) :: (l1 ++ (old ++ l2) ++ T)).Perm (old ++ ((x, m) :: (l1 ++ l2 ++ T))) := by
      have q : (l1 ++ (old ++ l2) ++ T).Perm (old ++ (l1 ++ l2 ++ T)) := by
        rw [← List.append_assoc l1, List.append_assoc (l1 ++ old), List.append_assoc l1 l2, ← List.append_assoc old l1]
        exact List.Perm.append_right _ List.perm_append_comm
      exact (q.cons _).trans List.perm_middle.symm
    have rp3 := rp2.perm p
    have gen : ∀ (o r : List (V × M)), Rp F.P F.w F.K F.c G H (o ++ r) S.ob → Rp F.P F.w F.K F.c G H r S.ob := by
      intro o r
      induction o with
      | nil => exact id
      | cons x o ih => exact fun z => ih z.tail
    exact gen old _ rp3
  · have e1 : setSl S.sl i m = S.sl := List.set_eq_of_length_le (Nat.le_of_not_lt hi)
    have e2 : σ.set i (some x) = σ := List.set_eq_of_length_le (by rw [sl.len]; exact Nat.le_of_not_lt hi)
    rw [e2]
    show Stt F G H σ ⟨setSl S.sl i m, S.ob⟩ T
    rw [e1]
    exact ⟨L, sl, (Rp.outT.mp rp).tail⟩
theorem Stt.setv {x : V} {d : D} (h : Stt F G H σ S T) (r : RD F G H x d) (i : Nat) : Stt F G H (σ.set i (some x)) ⟨setSl S.sl i (.val d), S.ob⟩ T := by
  obtain ⟨S', e, z⟩ := (h.val r).put i
  rw [← e]; exact z
theorem wipe_set {σ : L2.St} {i : Nat} {y : Option V} : ∀ {vs : List Nat}, i ∈ vs → wipe (σ.set i y) vs = wipe σ vs
  | [], h => by cases h
  | v :: vs, h => by
    unfold wipe
    by_cases e : i ∈ vs
    · rw [wipe_set e]
    · have ev : i = v := (List.mem_cons.mp h).elim id fun h => absurd h e
      subst ev
      have gen : ∀ {ws : List Nat}, i ∉ ws → wipe (σ.set i y) ws = (wipe σ ws).set i y := by
        intro ws
        induction ws with
        | nil => intro _; rfl
        | cons w ws ih =>
          intro hw
          unfold wipe
          rw [ih fun z => hw (List.mem_cons_of_mem _ z)]
          exact List.set_comm _ _ fun z => hw (z ▸ List.mem_cons_self)
      rw [gen e, List.set_set]
theorem bindL_ok : ∀ {tg : List Nat} {xs : List V} {ds : List D} {σ : L2.St} {S : Sg} {Q : L2.St → Hp → Prop}, xs.length = tg.length → RepDs F.P F.w F.K G H xs ds → Stt F G H σ S T →
    (∀ σ', Stt F G H σ' ⟨bindL S.sl tg ds, S.ob⟩ T → (∀ vs : List Nat, (∀ i ∈ tg, i ∈ vs) → wipe σ' vs = wipe σ vs) → Q σ' H) → gNs tg xs σ H Q
  | [], [], _, σ, S, Q, _, .nil, hs, k => ⟨rfl, k σ hs fun _ _ => rfl⟩
  | i :: is, x :: xs, d :: ds, σ, S, Q, hl, .cons r rs, hs, k => ⟨x, xs, rfl, bindL_ok (Nat.succ.inj hl) rs (hs.setv r i) fun σ' z w => k σ' z fun vs hv => by
      rw [w vs fun j hj => hv j (List.mem_cons_of_mem _ hj)]
      exact wipe_set (hv i List.mem_cons_self)⟩
  | [], _ :: _, _, _, _, _, hl, _, _, _ => by cases hl
  | _ :: _, [], _, _, _, _, hl, _, _, _ => by cases hl
theorem bind_ok {tg : List Nat} {one : Bool} {v : V} {d : D} {sl' : List (Option M)} {Q : L2.St → Hp → Prop} (r : RD F G H v d) (hs : Stt F G H σ S T) (h : bindT S.sl tg one (.val d) = some sl')
    (k : ∀ σ', Stt F G H σ' ⟨sl', S.ob⟩ T → (∀ vs : List Nat, (∀ i ∈ tg, i ∈ vs) → wipe σ' vs = wipe σ vs) → Q σ' H) : gT F.K tg one v σ H Q := by
  unfold bindT at h
  unfold gT
  cases one with
  | true =>
    rw [if_pos rfl] at h ⊢
    split at h
    · rename_i i
      cases h
      exact k _ (hs.setv r i) fun vs hv => wipe_set (hv i List.mem_cons_self)
    · cases h
  | false =>
    rw [if_neg (by decide)] at h ⊢
    split at h
    · rename_i xs e
      cases e
      split at h
      · rename_i hl
        cases h
        obtain ⟨a, vs, rfl, q1, q2⟩ := tup_of (.val r)
        exact ⟨a, vs, rfl, q1, by rw [q2.len]; exact hl, bindL_ok (by rw [q2.len]; exact hl) q2 hs k⟩
      · cases h
    · cases h
/-! ### what is walked -/
def Walks (F : Fx) (J : It) (v : V) (d : D) (ds : List D) : Prop := ∀ (G : Gh) (H : Hp), RD F G H v d → (∀ i, i < ds.length → J.go i H) ∧ (∀ i x H', J.yld i H x H' → i < ds.length → H' = H ∧ ∃ y, ds[i]? = some y ∧ RD F G H x y) ∧ J.stop ds.length H
theorem repds_at : ∀ {vs : List V} {ds : List D} {i : Nat} {v : V}, RepDs F.P F.w F.K G H vs ds → vs[i]? = some v → ∃ d, ds[i]? = some d ∧ RD F G H v d
  | _, _, 0, _, .cons a _, e => by cases e; exact ⟨_, rfl, a⟩
  | _, _, i + 1, _, .cons _ b, e => by obtain ⟨v, h1, h2⟩ := repds_at (i := i) b e; exact ⟨v, h1, h2⟩
theorem wk_tup {a : Addr} {ds : List D} : Walks F (Itt F.K a) (.ref a) (.tup ds) ds := by
  intro G H r
  cases r with
  | @tup a vs _ h1 h2 =>
    have q := sqt_of h1
    refine ⟨fun i hi => ?_, fun i x H' ⟨e, y⟩ hi => ⟨e, repds_at h2 (y vs q)⟩, vs, q, Nat.le_of_eq h2.len⟩
    have hi' : i < vs.length := by rw [h2.len]; exact hi
    exact ⟨vs, vs[i], q, by simp [hi']⟩
theorem wk_lst {a : Addr} {ds : List D} : Walks F (Itl F.K a) (.ref a) (.lst ds) ds := by
  intro G H r
  cases r with
  | @lst a vs _ h1 h0 h2 =>
    have q : SqL F.K H a vs := .inl (.inl h0)
    refine ⟨fun i hi => ?_, fun i x H' ⟨e, y⟩ hi => ⟨e, repds_at h2 (y vs q)⟩, vs, q, Nat.le_of_eq h2.len⟩
    have hi' : i < vs.length := by rw [h2.len]; exact hi
    exact ⟨vs, vs[i], q, by simp [hi']⟩
theorem wk_scr {a : Addr} {ds : List D} : Walks F (Itl F.K a) (.ref a) (.scr ds) ds := by
  intro G H r
  cases r with
  | @scr a vs _ h1 h2 =>
    have q := sql_of h1
    refine ⟨fun i hi => ?_, fun i x H' ⟨e, y⟩ hi => ⟨e, repds_at h2 (y vs q)⟩, vs, q, Nat.le_of_eq h2.len⟩
    have hi' : i < vs.length := by rw [h2.len]; exact hi
    exact ⟨vs, vs[i], q, by simp [hi']⟩
theorem wk_str {s : List Nat} : Walks F (Its (mkS s)) (.str (mkS s)) (.str s) (s.map fun c => .str [c]) := by
  intro G H r
  have hz : (mkS s).cps.size = s.length := len_mk s
  refine ⟨fun i hi => ?_, fun i x H' ⟨e, c, h1, h2⟩ hi => ⟨e, .str [c], ?_, ?_⟩, ?_⟩
  · show i < (mkS s).cps.size
    rw [hz]; simpa using hi
  · have h1 : s.toArray[i]? = some c := h1
    rw [List.getElem?_toArray] at h1
    rw [List.getElem?_map, h1]; rfl
  · rw [h2]
    have := @RepD.str F.P F.w F.K G H (mkS [c])
    exact this
  · show (mkS s).cps.size ≤ _
    rw [hz]; simp
theorem wk_rng {lo : Int} {n : Nat} {ds : List D} (hd : ds = (List.range n).map fun k : Nat => .int (lo + (k : Int))) : Walks F (Itr lo n) .non .non ds := by
  intro G H _
  subst hd
  refine ⟨fun i hi => (show i < n by simpa using hi), fun i x H' ⟨e, h⟩ hi => ⟨e, .int (lo + i), ?_, ?_⟩, by show n ≤ _; simp⟩
  · have hi : i < n := by simpa using hi
    rw [List.getElem?_map, List.getElem?_range hi]; rfl
  · rw [h]; exact .int _
/-- what stands for an iterable -/
def tei (F : Fx) (c1 c0 : CallFn) (W : WX) (ce : CE) : TI := fun σ H R => ∃ G S T, Stt F G H σ S T ∧ match ev F.PG c1 c0 ce S with
  | .ok m S' => ∃ ds, m.items = some ds ∧ ∀ J v d H' G', G.le G' → Walks F J v d ds → Stt F G' H' σ S' ((v, .val d) :: T) → R J H'
  | .exc x fs S' => Xk F W G σ T x fs S'
  | .bad => False
theorem sn_it {tg : Expr} (hK : X.K = F.K) (he : PE X e (tev F c1 c0 W ca)) : PI X tg e (tei F c1 c0 W ca) := by
  refine ⟨fun pins s σ H R I ⟨G, S, T, hs, h⟩ => ?_⟩
  cases q : ev F.PG c1 c0 ca S with
  | bad => rw [q] at h; exact h.elim
  | exc x fs S1 =>
    rw [q] at h
    exact (pi_list (tg := tg) he).run pins s σ H R I ⟨G, S, T, hs, by rw [q]; exact h⟩
  | ok m S1 =>
    rw [q] at h
    obtain ⟨ds, e1, h⟩ := h
    cases m with
    | dct _ => cases e1
    | lst ms =>
      cases e1
      refine (pi_list (tg := tg) he).run pins s σ H R I ⟨G, S, T, hs, ?_⟩
      rw [q]
      intro V H1 G1 le sm st
      obtain ⟨G2, l2, st2⟩ := st.freeze
      obtain ⟨f, r⟩ := st.head
      cases r with
      | @lst a vs _ f h1 h2 =>
        refine ⟨a, rfl, ⟨vs, by rw [hK]; exact .inl (.inl h1)⟩, ?_⟩
        rw [hK]
        exact h _ (.ref a) (.lst (M.fzs ms)) H1 G2 (Gh.le_trans le l2) wk_lst st2
    | val d =>
      cases d <;> first | (cases e1; done) | skip
      · rename_i s'
        cases e1
        refine (pi_str (tg := tg) he).run pins s σ H R I ⟨G, S, T, hs, ?_⟩
        rw [q]
        intro V H1 G1 le sm st
        obtain ⟨f, r⟩ := st.head
        obtain rfl := rm_str r
        exact ⟨_, rfl, h _ _ (.str s') H1 G1 le wk_str st⟩
      · rename_i xs
        cases e1
        refine (pi_tup (tg := tg) he).run pins s σ H R I ⟨G, S, T, hs, ?_⟩
        rw [q]
        intro V H1 G1 le sm st
        obtain ⟨f, r⟩ := st.head
        obtain ⟨a, vs, rfl, q1, q2⟩ := tup_of r
        refine ⟨a, rfl, ⟨vs, by rw [hK]; exact q1⟩, ?_⟩
        rw [hK]
        exact h _ (.ref a) (.tup ds) H1 G1 le wk_tup st
      · rename_i xs
        cases e1
        refine (pi_list (tg := tg) he).run pins s σ H R I ⟨G, S, T, hs, ?_⟩
        rw [q]
        intro V H1 G1 le sm st
        obtain ⟨f, r⟩ := st.head
        cases r with
        | val r =>
          cases r with
          | @lst a vs _ h1 h0 h2 =>
            refine ⟨a, rfl, ⟨vs, by rw [hK]; exact .inl (.inl h0)⟩, ?_⟩
            rw [hK]
            exact h _ (.ref a) (.lst ds) H1 G1 le wk_lst st
      · rename_i xs
        cases e1
        refine (pi_list (tg := tg) he).run pins s σ H R I ⟨G, S, T, hs, ?_⟩
        rw [q]
        intro V H1 G1 le sm st
        obtain ⟨f, r⟩ := st.head
        cases r with
        | val r =>
          cases r with
          | @scr a vs _ h1 h2 =>
            refine ⟨a, rfl, ⟨vs, by rw [hK]; exact sql_of h1⟩, ?_⟩
            rw [hK]
            exact h _ (.ref a) (.scr ds) H1 G1 le wk_scr st
theorem rng_of {Q : It → Hp → Prop} {Z : List V → Hp → Prop} (h : tei F c1 c0 W (.rng ces) σ H Q)
    (k : ∀ vs H1 G1 ms, RZ F G1 H1 vs ms → (∃ S S', evs F.PG c1 c0 ces S = .ok ms S') → ∀ xs, rangeL ms = some xs → (∀ J, Walks F J .non .non xs → Q J H1) → Z vs H1) : tevsO F c1 c0 W ces σ H Z := by
  obtain ⟨G, S, T, hs, h⟩ := h
  have h : match (evs F.PG c1 c0 ces S).bind fun ms S => opt ((rangeL ms).map fun xs => M.val (.lst xs)) S with
    | .ok m S' => ∃ ds, m.items = some ds ∧ ∀ J v d H' G', G.le G' → Walks F J v d ds → Stt F G' H' σ S' ((v, .val d) :: T) → Q J H'
    | .exc x fs S' => Xk F W G σ T x fs S'
    | .bad => False := h
  have o1 : Out F W G σ T (evs F.PG c1 c0 ces S) := by
    cases q : evs F.PG c1 c0 ces S with
    | ok m S1 => trivial
    | exc x fs S1 => rw [q] at h; exact h
    | bad => rw [q] at h; exact h
  refine tevsO_mono (tevsO_of hs o1) fun vs H1 ⟨G1, ms, S1, e1, l1, s1, rz, h1⟩ => ?_
  rw [e1] at h
  have h : match opt ((rangeL ms).map fun xs => M.val (.lst xs)) S1 with
    | .ok m S' => ∃ ds, m.items = some ds ∧ ∀ J v d H' G', G.le G' → Walks F J v d ds → Stt F G' H' σ S' ((v, .val d) :: T) → Q J H'
    | .exc x fs S' => Xk F W G σ T x fs S'
    | .bad => False := h
  cases q : rangeL ms with
  | none => rw [q] at h; exact h.elim
  | some xs =>
    rw [q] at h
    obtain ⟨ds, e, h⟩ := h
    cases e
    exact k vs H1 G1 ms rz ⟨S, S1, e1⟩ xs q fun J w => h J .non .non H1 G1 l1 w (h1.val .non)
theorem rng1_of {ms : List M} {xs : List D} (h : rangeL ms = some xs) : (∃ n : Int, ms = [.val (.int n)] ∧ (-4611686018427387904 ≤ n ∧ n < 4611686018427387904) ∧ xs = (List.range n.toNat).map fun k : Nat => .int ((0 : Int) + (k : Int))) ∨
    (∃ a b : Int, ms = [.val (.int a), .val (.int b)] ∧ (-4611686018427387904 ≤ a ∧ a < 4611686018427387904 ∧ -4611686018427387904 ≤ b ∧ b < 4611686018427387904) ∧ xs = (List.range (b - a).toNat).map fun k : Nat => .int (a + (k : Int))) := by
  unfold rangeL at h
  split at h
  · split at h
    · cases h
      refine .inl ⟨_, rfl, by assumption, ?_⟩
      apply List.map_congr_left
      intro k _
      show D.int (k : Int) = D.int (0 + (k : Int))
      rw [Int.zero_add]
    · cases h
  · split at h
    · cases h
      exact .inr ⟨_, _, rfl, by assumption, rfl⟩
    · cases h
  · cases h
end
end Tk
/- Snd14 -/
set_option Elab.async false
set_option linter.all false
set_option maxRecDepth 100000
set_option maxHeartbeats 1000000
namespace Tk
open PySem PySem.Spec PyProof.Rows L2
section
variable {F : Fx} {c1 c0 : CallFn} {W : WX} {G G' : Gh} {H H' : Hp} {σ : L2.St} {S S' : Sg} {T : List (V × M)} {X : Cx} {e e1 a b c o : Expr} {ca cb cc : CE} {es rest : List Expr} {ces : CEs} {pos p p2 apos : Pos} {k j : Nat} {x : Str}
theorem sn_rng1 {tg : Expr} (hg : Gl X "range") (hm : X.mg "range" = none) (ha : PA X [a] (tevsO F c1 c0 W (.cons ca .nil))) (hs : starEach [a] X.env = [(false, eval a X.env)]) : PI X tg (.Call (.Name "range" p) [a] [] pos) (tei F c1 c0 W (.rng (.cons ca .nil))) := by
  refine ⟨fun pins s σ H R I h => (pi_range1 (tg := tg) hg hm ha hs).run pins s σ H R I ?_⟩
  refine rng_of h fun vs H1 G1 ms rz ⟨S, S', ee⟩ xs e q => ?_
  rcases rng1_of e with ⟨n, rfl, ⟨h1, h2⟩, rfl⟩ | ⟨a, b, rfl, _, _⟩
  · obtain ⟨v, f, rfl, r⟩ := rz.one
    obtain rfl := rm_int r
    exact ⟨n, rfl, by omega, by omega, q _ (wk_rng rfl)⟩
  · rw [evs_one] at ee
    cases q1 : ev F.PG c1 c0 ca S with
    | ok m S1 => rw [q1] at ee; cases ee
    | exc _ _ _ => rw [q1] at ee; cases ee
    | bad => rw [q1] at ee; cases ee
theorem sn_rng2 {tg : Expr} (hg : Gl X "range") (hm : X.mg "range" = none) (ha : PA X [a, b] (tevsO F c1 c0 W (.cons ca (.cons cb .nil)))) (hs : starEach [a, b] X.env = [(false, eval a X.env), (false, eval b X.env)]) (hs2 : starEach [b] X.env = [(false, eval b X.env)]) :
    PI X tg (.Call (.Name "range" p) [a, b] [] pos) (tei F c1 c0 W (.rng (.cons ca (.cons cb .nil)))) := by
  refine ⟨fun pins s σ H R I h => (pi_range2 (tg := tg) hg hm ha hs hs2).run pins s σ H R I ?_⟩
  refine rng_of h fun vs H1 G1 ms rz ⟨S, S', ee⟩ xs e q => ?_
  rcases rng1_of e with ⟨n, rfl, ⟨h1, h2⟩, rfl⟩ | ⟨x, y, rfl, ⟨h1, h2, h3, h4⟩, rfl⟩
  · rw [evs_two] at ee
    cases q1 : ev F.PG c1 c0 ca S with
    | ok m S1 =>
      rw [q1] at ee
      have ee : ((ev F.PG c1 c0 cb S1).bind fun n S => Tk.R.ok [m, n] S) = .ok [M.val (.int n)] S' := ee
      cases q2 : ev F.PG c1 c0 cb S1 with
      | ok m S1 => rw [q2] at ee; cases ee
      | exc _ _ _ => rw [q2] at ee; cases ee
      | bad => rw [q2] at ee; cases ee
    | exc _ _ _ => rw [q1] at ee; cases ee
    | bad => rw [q1] at ee; cases ee
  · obtain ⟨v, u, f, g, rfl, r1, r2⟩ := rz.two
    obtain rfl := rm_int r1
    obtain rfl := rm_int r2
    exact ⟨x, y, rfl, ⟨by omega, by omega, by omega, by omega⟩, q _ (wk_rng rfl)⟩
/-! ### comprehensions -/
theorem SlR.weak {σ τ : L2.St} {sl : List (Option M)} {l : List (V × M)} (h : SlR σ sl l) : τ.length = σ.length → (∀ (i : Nat) v, σ[i]? = some (some v) → τ[i]? = some (some v)) → SlR τ sl l := by
  induction h generalizing τ with
  | nil =>
    intro e _
    cases τ with
    | nil => exact .nil
    | cons _ _ => cases e
  | kn _ ih =>
    intro e w
    cases τ with
    | nil => cases e
    | cons y τ =>
      have := w 0 _ rfl
      cases (show some y = some (some _) from this)
      exact .kn (ih (Nat.succ.inj e) fun i v h => w (i + 1) v h)
  | un _ ih =>
    intro e w
    cases τ with
    | nil => cases e
    | cons y τ => exact .un (ih (Nat.succ.inj e) fun i v h => w (i + 1) v h)
theorem SlR.wipe {sl : List (Option M)} {l : List (V × M)} (h : SlR σ sl l) : ∀ (vs : List Nat), ∃ l', SlR (L2.wipe σ vs) (wipeSl sl vs) l' ∧ ∀ (G : Gh) (H : Hp) T ob, Rp F.P F.w F.K F.c G H (l ++ T) ob → Rp F.P F.w F.K F.c G H (l' ++ T) ob
  | [] => ⟨l, h, fun _ _ _ _ r => r⟩
  | v :: vs => by
    obtain ⟨l', h1, h2⟩ := SlR.wipe h vs
    obtain ⟨l1, old, l2, e, h3⟩ := h1.drop v none
    subst e
    exact ⟨l1 ++ l2, h3, fun G H T ob r => (h2 G H T ob r).sub⟩
theorem Stt.wipe (h : Stt F G H σ S T) (vs : List Nat) : Stt F G H (L2.wipe σ vs) ⟨wipeSl S.sl vs, S.ob⟩ T := by
  obtain ⟨L, sl, rp⟩ := h
  obtain ⟨L', h1, h2⟩ := SlR.wipe (F := F) sl vs
  exact ⟨L', h1, h2 G H T S.ob rp⟩
theorem Stt.unwipe {vs : List Nat} (h : Stt F G H (L2.wipe σ vs) S T) : Stt F G H σ S T := by
  obtain ⟨L, sl, rp⟩ := h
  exact ⟨L, sl.weak (L2.wipe_length σ vs).symm fun i v e => (wipe_some e).1, rp⟩
theorem wipe_wipe {vs : List Nat} : L2.wipe (L2.wipe σ vs) vs = L2.wipe σ vs := by
  have gen : ∀ (us : List Nat), (∀ i ∈ us, i ∈ vs) → L2.wipe (L2.wipe σ vs) us = L2.wipe σ vs := by
    intro us
    induction us with
    | nil => intro _; rfl
    | cons u us ih =>
      intro hu
      show (L2.wipe (L2.wipe σ vs) us).set u none = L2.wipe σ vs
      rw [ih fun i hi => hu i (List.mem_cons_of_mem _ hi)]
      have idem : ∀ {ws : List Nat}, u ∈ ws → (L2.wipe σ ws).set u none = L2.wipe σ ws := by
        intro ws
        induction ws with
        | nil => intro z; cases z
        | cons w ws ih2 =>
          intro hw
          unfold L2.wipe
          by_cases e : u ∈ ws
          · by_cases q : u = w
            · subst q; rw [List.set_set]
            · rw [List.set_comm _ _ (fun z => q z.symm), ih2 e]
          · have : u = w := (List.mem_cons.mp hw).elim id fun z => absurd z e
            subst this
            rw [List.set_set]
      exact idem (hu u List.mem_cons_self)
  exact gen vs fun _ h => h
/-- no exception is let out -/
abbrev WF : WX := fun _ _ _ _ => False
def ttC (F : Fx) (c1 c0 : CallFn) : CEs → TT
  | .nil => tYes
  | .cons c .nil => tet F c1 c0 WF c
  | _ => fun _ _ _ => False
/-- a turn of the core's comprehension -/
def cturn (P : Prog) (c1 c0 : CallFn) (own tg : List Nat) (one : Bool) (cds : CEs) (elt : CE) : D → Sg → R (Option M) := fun d S => match bindT S.sl tg one (.val d) with
  | some sl => (evAnd P c1 c0 cds ⟨sl, S.ob⟩).bind fun b S => (match b with
    | .val (.bl true) => (ev P c1 c0 elt S).bind fun m S => .ok (some m) ⟨wipeSl S.sl own, S.ob⟩
    | .val (.bl false) => .ok none ⟨wipeSl S.sl own, S.ob⟩
    | _ => .bad)
  | none => .bad
theorem ev_comp {own tg : List Nat} {one : Bool} {it elt : CE} {cds : CEs} : ev F.PG c1 c0 (.comp own tg one it cds elt) S = (ev F.PG c1 c0 it S).bind fun m S => match m.items with
    | some xs => ((cloop (cturn F.PG c1 c0 own tg one cds elt) xs ⟨wipeSl S.sl own, S.ob⟩).nox).bind fun ms S => if ms.length ≤ line then .ok (.lst ms) S else .bad
    | none => .bad := rfl
/-- the clause's test: what comes, comes by ok -/
theorem cond_of {cds : CEs} {Q : Bool → Hp → Prop} (hc : cds = .nil ∨ ∃ c, cds = .cons c .nil) (hs : Stt F G H σ S T) {b : M} {S1 : Sg} (e : evAnd F.PG c1 c0 cds S = .ok b S1)
    (k : ∀ H1 G1 v, G.le G1 → b = .val (.bl v) → Stt F G1 H1 σ S1 T → Q v H1) : ttC F c1 c0 cds σ H Q := by
  rcases hc with rfl | ⟨c, rfl⟩
  · cases (show R.ok (M.val (.bl true)) S = .ok b S1 from e)
    exact k H G true (Gh.le_refl G) rfl hs
  · refine ⟨G, S, T, hs, ?_⟩
    have e : (ev F.PG c1 c0 c S).bind (fun m S => match m with | .val (.bl true) => evAnd F.PG c1 c0 .nil S | .val (.bl false) => .ok (.val (.bl false)) S | _ => .bad) = .ok b S1 := e
    cases q : ev F.PG c1 c0 c S with
    | ok m S2 =>
      rw [q] at e
      have e : (match m with | .val (.bl true) => evAnd F.PG c1 c0 .nil S2 | .val (.bl false) => .ok (.val (.bl false)) S2 | _ => .bad) = .ok b S1 := e
      cases m with
      | val d =>
        cases d with
        | bl v =>
          refine ⟨v, rfl, fun H1 G1 le sm st => ?_⟩
          cases v with
          | true => cases (show R.ok (M.val (.bl true)) S2 = .ok b S1 from e); exact k H1 G1 true le rfl st
          | false => cases (show R.ok (M.val (.bl false)) S2 = .ok b S1 from e); exact k H1 G1 false le rfl st
        | _ => cases e
      | _ => cases e
    | exc _ _ _ => rw [q] at e; cases e
    | bad => rw [q] at e; cases e
theorem comp_of {own tg : List Nat} {one : Bool} {it elt : CE} {cds : CEs} {Q : VK} (hc : cds = .nil ∨ ∃ c, cds = .cons c .nil) (ht : ∀ i ∈ tg, i ∈ own) (h : tev F c1 c0 W (.comp own tg one it cds elt) σ H Q) :
    tLc (tei F c1 c0 W it) (gT F.K tg one) (ttC F c1 c0 cds) (tev F c1 c0 WF elt) own σ H Q := by
  obtain ⟨G, S, T, hs, h⟩ := tev_iff.mp h
  rw [ev_comp] at h
  refine ⟨G, S, T, hs, ?_⟩
  cases q : ev F.PG c1 c0 it S with
  | bad => rw [q] at h; exact h.elim
  | exc x fs S1 => rw [q] at h; exact h
  | ok m S1 =>
    rw [q] at h
    have h : Wants F W G H σ T false Q (match m.items with
      | some xs => ((cloop (cturn F.PG c1 c0 own tg one cds elt) xs ⟨wipeSl S1.sl own, S1.ob⟩).nox).bind fun ms S => if ms.length ≤ line then .ok (.lst ms) S else .bad
      | none => .bad) := h
    cases qi : m.items with
    | none => rw [qi] at h; exact h.elim
    | some ds =>
      rw [qi] at h
      refine ⟨ds, qi, fun J v d H1 G1 le wk st => ?_⟩
      have h : Wants F W G H σ T false Q (((cloop (cturn F.PG c1 c0 own tg one cds elt) ds ⟨wipeSl S1.sl own, S1.ob⟩).nox).bind fun ms S => if ms.length ≤ line then .ok (.lst ms) S else .bad) := h
      cases ql : cloop (cturn F.PG c1 c0 own tg one cds elt) ds ⟨wipeSl S1.sl own, S1.ob⟩ with
      | bad => rw [ql] at h; exact h.elim
      | exc _ _ _ => rw [ql] at h; exact h.elim
      | ok ms S2 =>
        rw [ql] at h
        have h : Wants F W G H σ T false Q (if ms.length ≤ line then .ok (.lst ms) S2 else .bad) := h
        by_cases hl : ms.length ≤ line
        · rw [if_pos hl] at h
          intro D hD
          refine ⟨fun i n H => n = ds.length - i ∧ i ≤ ds.length ∧ ∃ G2 S3 acc rest, G1.le G2 ∧ Stt F G2 H (L2.wipe σ own) S3 ((.ref D, .lst acc) :: (v, .val d) :: T) ∧ cloop (cturn F.PG c1 c0 own tg one cds elt) (ds.drop i) S3 = .ok rest S2 ∧ acc ++ rest = ms, ⟨ds.length, by simp, Nat.zero_le _, G1, ⟨wipeSl S1.sl own, S1.ob⟩, [], ms, Gh.le_refl G1, ?_, by rw [List.drop_zero]; exact ql, rfl⟩, ?_⟩
          · obtain ⟨L, sl, rp⟩ := st.wipe own
            exact ⟨L, sl, Rp.outT.mpr (Rp.new_lst (vs := []) (ms := []) rp rfl hD)⟩
          · rintro i n H2 ⟨rfl, hi, G2, S3, acc, rest', l2, st2, el, ea⟩
            obtain ⟨f0, r0⟩ := st2.tail.head
            have rd : RD F G2 H2 v d := by cases r0 with | val r0 => exact r0
            obtain ⟨w1, w2, w3⟩ := wk G2 H2 rd
            by_cases hlt : i < ds.length
            · refine .inr ⟨w1 i hlt, fun H' => ∃ m', m' < ds.length - i ∧ (m' = ds.length - (i + 1) ∧ i + 1 ≤ ds.length ∧ ∃ G2 S3 acc rest, G1.le G2 ∧ Stt F G2 H' (L2.wipe σ own) S3 ((.ref D, .lst acc) :: (v, .val d) :: T) ∧ cloop (cturn F.PG c1 c0 own tg one cds elt) (ds.drop (i + 1)) S3 = .ok rest S2 ∧ acc ++ rest = ms), fun H' z => z, fun x H' y => ?_⟩
              obtain ⟨rfl, y, ey, ry⟩ := w2 i x H' y hlt
              have ed : ds.drop i = y :: ds.drop (i + 1) := by
                rw [List.drop_eq_getElem_cons hlt]
                obtain ⟨_, z⟩ := List.getElem?_eq_some_iff.mp ey
                rw [z]
              rw [ed] at el
              have el : (cturn F.PG c1 c0 own tg one cds elt y S3).bind (fun o S1 => (cloop (cturn F.PG c1 c0 own tg one cds elt) (ds.drop (i + 1)) S1).bind fun ms S2 => .ok (match o with | some m => m :: ms | none => ms) S2) = .ok rest' S2 := el
              cases qb : bindT S3.sl tg one (.val y) with
              | none =>
                have : cturn F.PG c1 c0 own tg one cds elt y S3 = .bad := by unfold cturn; rw [qb]
                rw [this] at el; cases el
              | some sl' =>
                have ec : cturn F.PG c1 c0 own tg one cds elt y S3 = (evAnd F.PG c1 c0 cds ⟨sl', S3.ob⟩).bind fun b S => (match b with
                    | .val (.bl true) => (ev F.PG c1 c0 elt S).bind fun m S => .ok (some m) ⟨wipeSl S.sl own, S.ob⟩
                    | .val (.bl false) => .ok none ⟨wipeSl S.sl own, S.ob⟩
                    | _ => .bad) := by unfold cturn; rw [qb]
                rw [ec] at el
                refine bind_ok ry st2 qb fun σ' st3 hw => ⟨by rw [hw own ht, wipe_wipe], ?_⟩
                have hw' : L2.wipe σ' own = L2.wipe σ own := by rw [hw own ht, wipe_wipe]
                cases qc : evAnd F.PG c1 c0 cds ⟨sl', S3.ob⟩ with
                | bad => rw [qc] at el; cases el
                | exc _ _ _ => rw [qc] at el; cases el
                | ok bm S4 =>
                  rw [qc] at el
                  refine cond_of hc st3 qc fun H4 G4 bv l4 eb st4 => ?_
                  subst eb
                  cases bv with
                  | false =>
                    have el : (R.ok (none : Option M) ⟨wipeSl S4.sl own, S4.ob⟩).bind (fun o S1 => (cloop (cturn F.PG c1 c0 own tg one cds elt) (ds.drop (i + 1)) S1).bind fun ms S2 => .ok (match o with | some m => m :: ms | none => ms) S2) = .ok rest' S2 := el
                    have el : ((cloop (cturn F.PG c1 c0 own tg one cds elt) (ds.drop (i + 1)) ⟨wipeSl S4.sl own, S4.ob⟩).bind fun ms S2 => R.ok ms S2) = .ok rest' S2 := el
                    rw [if_neg (by decide)]
                    refine ⟨ds.length - (i + 1), by omega, rfl, hlt, G4, ⟨wipeSl S4.sl own, S4.ob⟩, acc, rest', Gh.le_trans l2 l4, ?_, ?_, ea⟩
                    · have := st4.wipe own
                      rw [hw'] at this
                      exact this
                    · cases q5 : cloop (cturn F.PG c1 c0 own tg one cds elt) (ds.drop (i + 1)) ⟨wipeSl S4.sl own, S4.ob⟩ with
                      | ok r S5 => rw [q5] at el; cases el; rfl
                      | exc _ _ _ => rw [q5] at el; cases el
                      | bad => rw [q5] at el; cases el
                  | true =>
                    have el : ((ev F.PG c1 c0 elt S4).bind fun m S => R.ok (some m) ⟨wipeSl S.sl own, S.ob⟩).bind (fun o S1 => (cloop (cturn F.PG c1 c0 own tg one cds elt) (ds.drop (i + 1)) S1).bind fun ms S2 => .ok (match o with | some m => m :: ms | none => ms) S2) = .ok rest' S2 := el
                    rw [if_pos rfl]
                    cases q6 : ev F.PG c1 c0 elt S4 with
                    | bad => rw [q6] at el; cases el
                    | exc _ _ _ => rw [q6] at el; cases el
                    | ok em S5 =>
                      rw [q6] at el
                      have el : ((cloop (cturn F.PG c1 c0 own tg one cds elt) (ds.drop (i + 1)) ⟨wipeSl S5.sl own, S5.ob⟩).bind fun ms S2 => R.ok (em :: ms) S2) = .ok rest' S2 := el
                      refine ⟨G4, S4, _, st4, ?_⟩
                      rw [q6]
                      intro yv H6 G6 l6 _ st6
                      cases q5 : cloop (cturn F.PG c1 c0 own tg one cds elt) (ds.drop (i + 1)) ⟨wipeSl S5.sl own, S5.ob⟩ with
                      | exc _ _ _ => rw [q5] at el; cases el
                      | bad => rw [q5] at el; cases el
                      | ok r S6 =>
                        rw [q5] at el
                        cases el
                        obtain ⟨fD, rD⟩ := st6.tail.head
                        cases rD with
                        | @lst _ vs _ fp hH hV =>
                          have hlen : vs.length = acc.length := hV.len
                          refine ⟨vs, hH, ?_, ds.length - (i + 1), by omega, rfl, hlt, G6, ⟨wipeSl S5.sl own, S5.ob⟩, acc ++ [em], r, Gh.le_trans (Gh.le_trans l2 l4) l6, ?_, q5, by rw [← ea]; simp⟩
                          · rw [hlen]
                            have : ms.length = acc.length + (r.length + 1) := by rw [← ea]; simp
                            have h5 : line = sizeLine := rfl
                            omega
                          · obtain ⟨L, sl, rp⟩ := st6
                            have rp2 : Rp F.P F.w F.K F.c G6 H6 ((.ref D, .lst acc) :: (yv, em) :: (L ++ ((v, .val d) :: T))) S5.ob := rp.perm (by
                              refine List.perm_middle.trans ?_
                              refine (List.Perm.cons _ List.perm_middle).trans ?_
                              exact List.Perm.swap _ _ _)
                            have rp3 := rp2.append hH
                            have st7 : Stt F G6 (upd H6 D (.lst (vs ++ [yv]))) σ' S5 ((.ref D, .lst (acc ++ [em])) :: (v, .val d) :: T) := ⟨L, sl, Rp.outT.mpr rp3⟩
                            have := st7.wipe own
                            rw [hw'] at this
                            exact this
            · have ei : i = ds.length := by omega
              subst ei
              refine .inl ⟨w3, ?_⟩
              rw [List.drop_length] at el
              cases el
              rw [List.append_nil] at ea
              subst ea
              exact h (.ref D) H2 G2 (Gh.le_trans le l2) (fun z => by cases z) (by
                have z := st2.unwipe
                obtain ⟨L, sl, rp⟩ := z
                refine ⟨L, sl, ?_⟩
                have rp2 : Rp F.P F.w F.K F.c G2 H2 ((v, .val d) :: (L ++ ((.ref D, .lst acc) :: T))) S2.ob := rp.perm (by
                  refine List.perm_middle.trans ?_
                  refine (List.Perm.cons _ List.perm_middle).trans ?_
                  refine (List.Perm.swap _ _ _).trans ?_
                  exact List.Perm.cons _ List.perm_middle.symm)
                exact rp2.tail)
        · rw [if_neg hl] at h; exact h.elim
end
end Tk
/- Snd15 -/
set_option Elab.async false
set_option linter.all false
set_option maxRecDepth 100000
namespace Tk
open PySem PySem.Spec PyProof.Rows L2
def nba : Expr → Bool
  | .Call (.Name _ _) [] [] _ => false
  | _ => true
theorem nba_ok {o : Expr} (h : nba o = true) (a : Str) (env : Env) (w : Sem Value) : attributeBase o a env w = w := by
  unfold attributeBase
  split
  · cases h
  · rfl
def nst : Expr → Bool
  | .Starred _ _ => false
  | _ => true
theorem star_cons {e : Expr} {es : List Expr} {env : Env} (h : nst e = true) : starEach (e :: es) env = (false, eval e env) :: starEach es env := by
  cases e <;> first | rfl | cases h
theorem star_all {env : Env} : ∀ {es : List Expr}, es.all nst = true → (starEach es env).all (fun x => !x.1) = true
  | [], _ => rfl
  | e :: es, h => by
    rw [List.all_cons, Bool.and_eq_true] at h
    rw [star_cons h.1, List.all_cons, star_all h.2]; rfl
theorem back_all {l : List (Bool × Sem Value)} {pos : Pos} (h : l.all (fun x => !x.1) = true) : (backTo pos l).all (fun x => !x.1) = true := by
  unfold backTo
  rw [List.all_map]
  exact h
theorem back_any {l : List (Bool × Sem Value)} {pos : Pos} (h : l.all (fun x => !x.1) = true) : (backTo pos l).any (·.1) = false := by
  have := back_all (pos := pos) h
  generalize backTo pos l = r at this
  induction r with
  | nil => rfl
  | cons x r ih =>
    rw [List.all_cons, Bool.and_eq_true] at this
    rw [List.any_cons, ih this.2]
    cases q : x.1 with
    | false => rfl
    | true => rw [q] at this; cases this.1
theorem star_len {env : Env} : ∀ {es : List Expr}, (starEach es env).length = es.length
  | [] => rfl
  | e :: es => by
    have : (starEach (e :: es) env).length = (starEach es env).length + 1 := by cases e <;> rfl
    rw [this, star_len]; rfl
theorem meth_eq {o : Expr} {m : Str} {apos pos : Pos} {args : List Expr} {env : Env} (h : nba o = true) (hs : args.all nst = true) (hn : args.length < 30) (hl : (apos.endLine == pos.line) = true) : eval (.Call (.Attribute o m apos) args [] pos) env = (do
      let ov ← eval o env
      standAt apos.atName
      let (f, first) ← holding [ov] (getMethod ov m (do return (← importBound o env).getD true))
      callWith pos f first (backTo pos (starEach args env)) (backToKw pos (keywordEach [] env))) := by
  have hf : methodCallForm (args.length + ([] : List Keyword).length) (backTo pos (starEach args env)) (backToKw pos (keywordEach [] env)) = true := by
    unfold methodCallForm
    rw [back_all (star_all hs)]
    have : (backToKw pos (keywordEach [] env)) = [] := rfl
    rw [this]
    simpa using hn
  rw [eval, nba_ok h]
  congr 1
  funext ov
  congr 1
  funext _
  unfold methodCall
  rw [hf]
  unfold calleeOf
  rw [if_pos rfl]
  have e2 : methodCallPos true o env apos pos = pure pos := by
    unfold methodCallPos
    rw [hl]
    rfl
  rw [e2]
  rfl
theorem few_ok {X : Cx} {pos : Pos} {es : List Expr} (hs : es.all nst = true) (hn : es.length < 30) : Few X pos es := by
  unfold Few
  rw [back_all (star_all hs)]
  have : (backToKw pos (keywordEach [] X.env)) = [] := rfl
  rw [this]
  simpa using hn
/-- a test by its value -/
def plT : Expr → Bool
  | .UnaryOp .Not _ _ => false
  | .BoolOp _ _ _ => false
  | .IfExp _ _ _ _ => false
  | .Compare _ _ _ _ => false
  | _ => true
theorem plT_ok {e : Expr} (h : plT e = true) (env : Env) (whole : Sem Value) : isTrue e env whole = (do let v ← whole; standAt e.pos; holding [v] (truthy v)) := by
  cases e <;> first | rfl | (cases h; done) | skip
  rename_i op x p
  cases op <;> first | rfl | cases h
def nsl : Expr → Bool
  | .Slice _ _ _ _ => false
  | _ => true
theorem nsl_ok {b : Expr} (h : nsl b = true) : PlainIx b := by
  intro o i
  cases b <;> first | rfl | cases h
def nse : Expr → Bool
  | .Set _ _ _ => false
  | _ => true
theorem nse_mark {b : Expr} (h : nse b = true) (op : CmpOp) : behindInMarks op b = false := by
  cases b <;> first | rfl | cases h
theorem nse_last {b c : Expr} (op op' : CmpOp) (h : nse c = true) : lastMarks [op, op'] [b, c] = false := nse_mark h op'
theorem nse_fold {e : Expr} (h : nse e = true) (env : Env) (x : Value) : foldedSetIterable e env x = pure x := by
  cases e <;> first | rfl | cases h
end Tk
/- Chk -/
set_option Elab.async false
set_option linter.all false
set_option maxRecDepth 100000
set_option maxHeartbeats 1000000
/-! Tk.Chk: a text's expressions against the core's. -/
namespace Tk
open PySem PySem.Spec PyProof.Rows L2
structure Nm where
  gn : List (Str × Nat)
  fn : List (Str × Nat)
  cn : List (Str × Nat)
  xn : List (Str × Nat)
  xr : List Nat
  nm : Nat → Str
structure If where
  N : List Str
  sc : Scope
  fn : Str → Bool
  nm : Nm
def nOk (x : Str) : Bool := !(x == ("__debug__" : Str)) && !(x == ("__classdict__" : Str))
def visB (sc : Scope) (x : Str) : Bool := match sc.names.lookup x with
  | some .local => true
  | some .cell => true
  | some .free => true
  | _ => false
def glB (sc : Scope) (x : Str) : Bool := match sc.names.lookup x with
  | some .globalImplicit => true
  | _ => false
def locB (I : If) (x : Str) : Bool := match I.sc.names.lookup x with
  | some .local => true
  | some .cell => I.fn x
  | _ => false
def slotB (I : If) (i : Nat) (x : Str) : Bool := decide (I.N[i]? = some x) && visB I.sc x && nOk x
def cstB : D → Expr → Bool
  | .int i, .Constant (.int j) _ _ => i == j
  | .bl b, .Constant (.bool c) _ _ => b == c
  | .non, .Constant .none _ _ => true
  | .str s, .Constant (.str x) _ _ => s == unS x
  | _, _ => false
def binO : Op → Option Operator
  | .add => some .Add
  | .sub => some .Sub
  | .mul => some .Mult
  | .fdiv => some .FloorDiv
  | .mod => some .Mod
  | _ => none
def cmpO : Op → Option CmpOp
  | .eq => some .Eq
  | .ne => some .NotEq
  | .lt => some .Lt
  | .le => some .LtE
  | .gt => some .Gt
  | .ge => some .GtE
  | .isin => some .In
  | .notin => some .NotIn
  | .is_ => some .Is
  | .isnot => some .IsNot
  | _ => none
/-- builtin functions, types -/
def bfO : Op → Option Str
  | .len => some "len"
  | .abs => some "abs"
  | .sorted_ => some "sorted"
  | .int_ => some "int"
  | .tuple_ => some "tuple"
  | .list_ => some "list"
  | _ => none
def mtO : Op → Option Str
  | .join_ => some "join"
  | .split_ => some "split"
  | .find_ => some "find"
  | .index_ => some "index"
  | _ => none
def bnL : List Str := ["len", "abs", "sorted", "int", "tuple", "list", "isinstance", "range", "str", "bool", "dict"]
def isTyB (I : If) (t : Sum String Nat) : Expr → Bool
  | .Name x _ => glB I.sc x && nOk x && (match t with
    | .inl s => tyT.elem s && decide (x = Str.ofString s)
    | .inr b => decide (I.nm.cn.lookup x = some b))
  | _ => false
def isCstS : CE → Bool
  | .cst (.str _) => true
  | _ => false
def tgL (I : If) : List Nat → List Expr → Bool
  | [], [] => true
  | i :: is, .Name x _ :: es => decide (I.N[i]? = some x) && locB I x && tgL I is es
  | _, _ => false
def tgB (I : If) (tg : List Nat) (one : Bool) (e : Expr) : Bool :=
  if one then (match tg, e with
    | [i], .Name x _ => decide (I.N[i]? = some x) && locB I x
    | _, _ => false)
  else (match e with
    | .Tuple es _ _ => tgL I tg es
    | _ => false)
def ownOf (N : List Str) (own : List Nat) : List (Str × Nat) := own.map fun i => (N.getD i "", i)
def If.blk (I : If) (scope : Scope) : If := ⟨I.N, relS scope I.sc, fun x => scope.names.lookup x == some .cell, I.nm⟩
mutual
def chk (I : If) : CE → Expr → Bool
  | .cst d, x => cstB d x
  | .var i, x => (match x with | .Name x _ => slotB I i x | _ => false)
  | .frz i, x => (match x with | .Name x _ => slotB I i x | _ => false)
  | .mov i, x => (match x with | .Name x _ => slotB I i x | _ => false)
  | .pk i, x => (match x with | .Name x _ => slotB I i x | _ => false)
  | .glo g, x => (match x with | .Name x _ => glB I.sc x && nOk x && decide (I.nm.gn.lookup x = some g) | _ => false)
  | .fld e f, x => (match x with | .Attribute o a _ => decide (a = I.nm.nm f) && nba o && !isPk e && chk I e o | _ => false)
  | .pkf e f, x => (match x with | .Attribute o a _ => decide (a = I.nm.nm f) && nba o && !isPk e && chk I e o | _ => false)
  | .pki e k, x => (match x with | .Subscript a b _ => nsl b && (!isPk e || pur k) && chk I e a && chk I k b | _ => false)
  | .fz e, x => !isPk e && chk I e x
  | .tup es, x => (match x with | .Tuple xs _ _ => noPk es && chks I es xs | _ => false)
  | .lst es, x => (match x with | .List xs _ => noPk es && chks I es xs | _ => false)
  | .dnew, x => (match x with | .Dict [] [] _ => true | _ => false)
  | .op o es, x => (match x with
    | .BinOp a op b _ => (match es with
      | .cons ca (.cons cb .nil) => decide (binO o = some op) && (!isPk ca || pur cb) && chk I ca a && chk I cb b
      | _ => false)
    | .Compare a [op] [b] _ => (match es with
      | .cons ca (.cons cb .nil) => decide (cmpO o = some op) && nse b && (!isPk ca || pur cb) && chk I ca a && chk I cb b
      | _ => false)
    | .UnaryOp .USub a _ => (match es with
      | .cons ca .nil => decide (o = .neg) && chk I ca a
      | _ => false)
    | .Subscript a (.Slice lo hi none _) _ => (match es with
      | .cons ca (.cons cl .nil) => (match lo, hi with
        | some l, none => decide (o = .slcL) && (!isPk ca || pur cl) && chk I ca a && chk I cl l
        | none, some h => decide (o = .slcH) && (!isPk ca || pur cl) && chk I ca a && chk I cl h
        | _, _ => false)
      | .cons ca (.cons cl (.cons ch .nil)) => (match lo, hi with
        | some l, some h => decide (o = .slcLH) && pur cl && pur ch && chk I ca a && chk I cl l && chk I ch h
        | _, _ => false)
      | _ => false)
    | .Subscript a b _ => (match es with
      | .cons ca (.cons cb .nil) => decide (o = .idx) && nsl b && (!isPk ca || pur cb) && chk I ca a && chk I cb b
      | _ => false)
    | .Call (.Name x _) args [] _ => glB I.sc x && nOk x && (match o with
      | .isi [t] => (match es, args with
        | .cons ca .nil, [a, tE] => isTyB I t tE && nst a && nst tE && decide (x = ("isinstance" : Str)) && chk I ca a
        | _, _ => false)
      | o => decide (bfO o = some x) && okOpd es && !args.isEmpty && chks I es args)
    | .Call (.Attribute ob a apos) args [] pos => (match es with
      | .cons co cargs => decide (mtO o = some a) && nba ob && (apos.endLine == pos.line) && decide (args.length < 30) && !args.isEmpty && (!isPk co || purs cargs) && (purs cargs || (isCstS co && !decide (o = .index_))) && okOpd cargs && chk I co ob && chks I cargs args
      | _ => false)
    | _ => false)
  | .chn o1 o2 ca cb cc, x => (match x with
    | .Compare a [op, op'] [b, c] _ => decide (cmpO o1 = some op) && decide (cmpO o2 = some op') && nse c && pur ca && pur cb && pur cc && chk I ca a && chk I cb b && chk I cc c
    | _ => false)
  | .and es, x => (match x with | .BoolOp .And xs _ => !xs.isEmpty && noPk es && chks I es xs | _ => false)
  | .or es, x => (match x with | .BoolOp .Or xs _ => !xs.isEmpty && noPk es && chks I es xs | _ => false)
  | .not e, x => (match x with | .UnaryOp .Not a _ => !isPk e && chk I e a | _ => false)
  | .ite cc ca cb, x => (match x with | .IfExp c a b _ => !isPk cc && !isPk ca && !isPk cb && chk I cc c && chk I ca a && chk I cb b | _ => false)
  | .rng _, _ => false
  | .call f es, x => (match x with | .Call (.Name x _) args [] _ => glB I.sc x && nOk x && decide (I.nm.fn.lookup x = some f) && noPk es && chks I es args | _ => false)
  | .meth m co es, x => (match x with
    | .Call (.Attribute ob a apos) args [] pos => decide (a = I.nm.nm m) && nba ob && (apos.endLine == pos.line) && decide (args.length < 30) && !isPk co && noPk es && chk I co ob && chks I es args
    | _ => false)
  | .make C es, x => (match x with | .Call (.Name x _) args [] _ => glB I.sc x && nOk x && decide (I.nm.cn.lookup x = some C) && noPk es && chks I es args | _ => false)
  | .comp own tg one it cds elt, x => (match x with
    | .ListComp ex [⟨tE, iE, ifs, 0⟩] scope _ =>
      nse iE && blkC I.N I.sc scope (ownOf I.N own) && tgB (I.blk scope) tg one tE && tg.all (own.elem ·) && !isPk elt && chk (I.blk scope) elt ex &&
      (match it with
        | .rng es => (match iE with
          | .Call (.Name r _) args [] _ => decide (r = ("range" : Str)) && glB I.sc r && okOpd es && decide (args.length = 1 ∨ args.length = 2) && chks I es args
          | _ => false)
        | it => !isPk it && chk I it iE) &&
      (match cds with
        | .nil => ifs.isEmpty
        | .cons cd .nil => (match ifs with | [i] => !isPk cd && chk (I.blk scope) cd i | _ => false)
        | _ => false)
    | _ => false)
def chks (I : If) : CEs → List Expr → Bool
  | .nil, xs => xs.isEmpty
  | .cons e es, xs => (match xs with | x :: xs => nst x && chk I e x && chks I es xs | [] => false)
end
/-! ### statements -/
def nco : Expr → Bool
  | .ListComp _ _ _ _ => false
  | .SetComp _ _ _ _ => false
  | .DictComp _ _ _ _ _ => false
  | _ => true
def ntu : Expr → Bool
  | .Tuple _ _ _ => false
  | _ => true
/-- whether the store swaps in: name = [..] -/
def swB (I : If) (y : Str) (py : Pos) : Expr → Bool
  | .ListComp _ _ scope pos => decide (I.sc.names.lookup y = some .local) && (py.line == pos.line) && !(scope.names.any fun (n, k) => n == y && (k == .local || k == .cell))
  | _ => false
def xnmB (I : If) (j : Option Nat) (y : Str) : Bool := match j with
  | some i => slotB I i y
  | none => false
def chkXE (I : If) (j : Option Nat) : XE → Expr → Bool
  | .cst d, e => cstB d e
  | .exf f, e => (match e with | .Attribute (.Name y _) a _ => decide (a = I.nm.nm f) && xnmB I j y | _ => false)
  | .exi c, e => (match e with | .Call (.Name g _) [.Name y _, .Name z _] [] _ => decide (g = ("isinstance" : Str)) && glB I.sc g && xnmB I j y && glB I.sc z && nOk z && decide (I.nm.xn.lookup z = some c) | _ => false)
  | .not x, e => (match e with | .UnaryOp .Not a _ => chkXE I j x a | _ => false)
  | .and x y, e => (match e with | .BoolOp .And [a, b] _ => chkXE I j x a && chkXE I j y b | _ => false)
  | .tup1 x, e => (match e with | .Tuple [a] _ _ => nst a && chkXE I j x a | _ => false)
  | .tup2 x y, e => (match e with | .Tuple [a, b] _ _ => nst a && nst b && chkXE I j x a && chkXE I j y b | _ => false)
  | .tup3 x y z, e => (match e with | .Tuple [a, b, c] _ _ => nst a && nst b && nst c && chkXE I j x a && chkXE I j y b && chkXE I j z c | _ => false)
def chkXS (I : If) (j : Option Nat) : XS → List Stmt → Bool
  | .pass, ss => (match ss with | [] => true | [.Pass _] => true | _ => false)
  | .ret e, ss => (match ss with | [.Return (some x) _] => chkXE I j e x | _ => false)
  | .ifr c e r, ss => (match ss with | .If t [.Return (some x) _] [] _ :: rest => chkXE I j c t && chkXE I j e x && chkXS I j r rest | _ => false)
def itB (I : If) (it : CE) (iE : Expr) : Bool := match it with
  | .rng es => (match iE with
    | .Call (.Name r _) args [] _ => decide (r = ("range" : Str)) && glB I.sc r && okOpd es && decide (args.length = 1 ∨ args.length = 2) && chks I es args
    | _ => false)
  | it => !isPk it && chk I it iE
def isTup : Expr → Bool
  | .Tuple _ _ _ => true
  | _ => false
mutual
def chkS (I : If) : CS → Stmt → Bool
  | .asg i ce, s => (match s with
    | .Assign [.Name y py] x _ => decide (I.N[i]? = some y) && locB I y && !isPk ce && chk I ce x && (nco x || (match x with | .ListComp _ _ _ _ => true | _ => false))
    | _ => false)
  | .asgt is ce, s => (match s with
    | .Assign [t] x _ => isTup t && tgB I is false t && !isPk ce && chk I ce x && nco x && ntu x
    | _ => false)
  | .aug i o ce, s => (match s with
    | .AugAssign (.Name y _) op x _ => decide (I.N[i]? = some y) && locB I y && !isPk ce && chk I ce x && (decide (o = .add ∧ op = .Add) || decide (o = .sub ∧ op = .Sub))
    | _ => false)
  | .setf co f ce, s => (match s with
    | .Assign [.Attribute o a _] x _ => decide (a = I.nm.nm f) && !isPk co && !isPk ce && chk I co o && chk I ce x
    | _ => false)
  | .seti i ck ce, s => (match s with
    | .Assign [.Subscript (.Name y _) e _] x _ => slotB I i y && !isPk ck && !isPk ce && chk I ck e && chk I ce x
    | _ => false)
  | .setfi co f ck ce, s => (match s with
    | .Assign [.Subscript (.Attribute o a _) e _] x _ => decide (a = I.nm.nm f) && nba o && pur ck && !isPk co && !isPk ck && !isPk ce && chk I co o && chk I ck e && chk I ce x
    | _ => false)
  | .app i ce, s => (match s with
    | .Expr (.Call (.Attribute (.Name y _) a apos) [x] [] pos) _ => decide (a = ("append" : Str)) && slotB I i y && nst x && (apos.endLine == pos.line) && !isPk ce && chk I ce x
    | _ => false)
  | .exp ce, s => (match s with
    | .Expr x _ => nco x && !isPk ce && chk I ce x
    | _ => false)
  | .ret ce, s => (match s with
    | .Return (some x) _ => !isPk ce && chk I ce x
    | _ => false)
  | .retn, s => (match s with | .Return none _ => true | _ => false)
  | .ite cc ca cb, s => (match s with
    | .If c pa pb _ => !isPk cc && chk I cc c && chkSs I ca pa && chkSs I cb pb
    | _ => false)
  | .whl cc cb, s => (match s with
    | .While c pb [] _ => !isPk cc && chk I cc c && chkSs I cb pb
    | _ => false)
  | .for tg one it cb, s => (match s with
    | .For tE iE pb [] _ => nse iE && tgB I tg one tE && itB I it iE && chkSs I cb pb
    | _ => false)
  | .rais c ces, s => (match s with
    | .Raise (some (.Call (.Name y _) args [] _)) none _ => glB I.sc y && nOk y && decide (I.nm.xn.lookup y = some c) && I.nm.xr.elem c && noPk ces && !args.isEmpty && chks I ces args
    | _ => false)
  | .try_ cb c j xs, s => (match s with
    | .Try body [.ExceptHandler (some (.Name y _)) nm (b₀ :: suite) _] [] [] _ => glB I.sc y && nOk y && decide (I.nm.xn.lookup y = some c) && chkSs I cb body && chkXS I j xs (b₀ :: suite) &&
      (match j, nm with
        | some i, some n => decide (I.N[i]? = some n) && decide (I.sc.names.lookup n = some .local)
        | none, none => true
        | _, _ => false)
    | _ => false)
  | .pass, s => (match s with
    | .Pass _ => true
    | .Expr (.Constant (.str _) _ _) _ => true
    | _ => false)
  | .brk, s => (match s with | .Break _ => true | _ => false)
  | .cnt, s => (match s with | .Continue _ => true | _ => false)
def chkSs (I : If) : CSs → List Stmt → Bool
  | .nil, ss => ss.isEmpty
  | .cons c cs, ss => (match ss with | s :: ss => chkS I c s && chkSs I cs ss | [] => false)
end
end Tk
/- Snd16 -/
set_option Elab.async false
set_option linter.all false
set_option maxRecDepth 100000
set_option maxHeartbeats 2000000
namespace Tk
open PySem PySem.Spec PyProof.Rows L2
/-- what the tables say -/
structure Nf (F : Fx) (nm : Nm) : Prop where
  nmE : F.c.nm = nm.nm
  gn : ∀ x g, nm.gn.lookup x = some g → ∃ u v d, F.PG.gl g = some d ∧ F.mg x = some u ∧ RelV v u ∧ ∀ G H, RepD F.P F.w F.K G H v d
  fn : ∀ x f, nm.fn.lookup x = some f → F.mg x = some (.ref (F.fa f)) ∧ ∃ Fn, F.PG.fn f = some Fn
  cn : ∀ x C, nm.cn.lookup x = some C → F.mg x = some (.ref (F.c.ca C)) ∧ ∃ cl Fn, F.PG.cl C = some cl ∧ F.PG.fn cl.init = some Fn
  bn : ∀ x ∈ bnL, F.mg x = none
  tt : TyTab F
  cf : ClF F
  ms : ∀ C cl m f, F.PG.cl C = some cl → cl.ms.lookup m = some f → ∃ Fn, F.PG.fn f = some Fn
/-- a context as the checker sees it -/
structure Ck (F : Fx) (I : If) (k : Nat) (W : WX) (X : Cx) : Prop extends Atx F X where
  N : X.N = I.N
  sc : X.env.scope = I.sc
  fn : ∀ x, I.fn x = true → X.fn x = true
  room : Room (k + 1) X.A
  kpos : 1 ≤ k
  tk : Takes X W
def OkE (F : Fx) (c1 c0 : CallFn) (W : WX) (X : Cx) (ce : CE) (x : Expr) : Prop := (isPk ce = false → PE X x (tev F c1 c0 W ce) ∧ PT X x (tet F c1 c0 W ce)) ∧ PE X x (tevO F c1 c0 W ce)
def OkL (F : Fx) (c1 c0 : CallFn) (W : WX) (X : Cx) (ces : CEs) (xs : List Expr) : Prop := (noPk ces = true → PA X xs (tevs F c1 c0 W ces)) ∧ (okOpd ces = true → PA X xs (tevsO F c1 c0 W ces)) ∧ xs.all nst = true ∧
  (noPk ces = true → xs ≠ [] → ∀ pos, PE X (.BoolOp .And xs pos) (tev F c1 c0 W (.and ces)) ∧ PW X (.BoolOp .And xs pos) (tet F c1 c0 W (.and ces)) ∧ PE X (.BoolOp .Or xs pos) (tev F c1 c0 W (.or ces)) ∧ PW X (.BoolOp .Or xs pos) (tet F c1 c0 W (.or ces)))
section
variable {F : Fx} {I : If} {k : Nat} {W : WX} {X : Cx} {c1 c0 : CallFn} {ce ca cb cc co : CE} {ces es : CEs} {x a b c : Expr} {xs args : List Expr} {pos apos p : Pos}
theorem OkE.v (h : OkE F c1 c0 W X ce x) (hp : isPk ce = false) : PE X x (tev F c1 c0 W ce) := (h.1 hp).1
theorem OkE.t (h : OkE F c1 c0 W X ce x) (hp : isPk ce = false) : PT X x (tet F c1 c0 W ce) := (h.1 hp).2
theorem OkE.mk' (hp : isPk ce = false) (he : PE X x (tev F c1 c0 W ce)) (ht : PT X x (tet F c1 c0 W ce)) : OkE F c1 c0 W X ce x := ⟨fun _ => ⟨he, ht⟩, opd_of_val hp he⟩
theorem OkE.pl (hp : isPk ce = false) (he : PE X x (tev F c1 c0 W ce)) (hpl : plT x = true) : OkE F c1 c0 W X ce x := OkE.mk' hp he (sn_val he (plT_ok hpl X.env))
theorem OkE.pk (hp : isPk ce = true) (he : PE X x (tevO F c1 c0 W ce)) : OkE F c1 c0 W X ce x := ⟨fun h => (by rw [hp] at h; cases h), he⟩
theorem vis_ok (C : Ck F I k W X) {y : Str} (h : visB I.sc y = true) : Vis X.env.scope y := by
  unfold Vis
  rw [C.sc]
  unfold visB at h
  split at h
  · exact .inl (by assumption)
  · exact .inr (.inl (by assumption))
  · exact .inr (.inr (by assumption))
  · cases h
theorem gl_ok (C : Ck F I k W X) {y : Str} (h : glB I.sc y = true) : Gl X y := by
  show X.env.scope.names.lookup y = some .globalImplicit
  rw [C.sc]
  unfold glB at h
  split at h
  · assumption
  · cases h
theorem nOk1 {y : Str} (h : nOk y = true) : (y == ("__debug__" : Str)) = false := by
  unfold nOk at h
  rw [Bool.and_eq_true] at h
  cases q : (y == ("__debug__" : Str)) with
  | false => rfl
  | true => rw [q] at h; cases h.1
theorem nOk2 {y : Str} (h : nOk y = true) : (y == ("__classdict__" : Str)) = false := by
  unfold nOk at h
  rw [Bool.and_eq_true] at h
  cases q : (y == ("__classdict__" : Str)) with
  | false => rfl
  | true => rw [q] at h; cases h.2
theorem var_ok (C : Ck F I k W X) {i : Nat} {y : Str} (h : slotB I i y = true) : PE X (.Name y p) (tVar i) := by
  unfold slotB at h
  simp only [Bool.and_eq_true, decide_eq_true_eq] at h
  exact pe_var (by rw [C.N]; exact h.1.1) (vis_ok C h.1.2) (nOk1 h.2) (nOk2 h.2)
theorem or_pk {p q : Bool} (h : (!p || q) = true) : p = true → q = true := fun z => by
  rw [z] at h; exact h
theorem not_pk {p : Bool} (h : (!p) = true) : p = false := by cases p <;> first | rfl | cases h
/-! ### constants -/
theorem k_cst {d : D} (h : cstB d x = true) : OkE F c1 c0 W X (.cst d) x := by
  unfold cstB at h
  split at h
  · rename_i i j _ _
    obtain rfl := of_decide_eq_true (show decide (i = j) = true by simpa using h)
    exact OkE.pl rfl (sn_cst pe_int fun _ _ => .int _) rfl
  · rename_i i j _ _
    obtain rfl : i = j := by simpa using h
    exact OkE.pl rfl (sn_cst pe_bl fun _ _ => .bl _) rfl
  · exact OkE.pl rfl (sn_cst pe_non fun _ _ => .non) rfl
  · rename_i s y _ _
    obtain rfl : s = unS y := by simpa using h
    exact OkE.pl rfl (sn_cst pe_str fun _ _ => .str y) rfl
  · cases h
theorem k_glo (C : Ck F I k W X) (NF : Nf F I.nm) {g : Nat} {y : Str} (h : (glB I.sc y && nOk y && decide (I.nm.gn.lookup y = some g)) = true) : OkE F c1 c0 W X (.glo g) (.Name y p) := by
  simp only [Bool.and_eq_true, decide_eq_true_eq] at h
  obtain ⟨u, v, d, e1, e2, e3, e4⟩ := NF.gn y g h.2
  refine OkE.pl rfl (sn_glo (fun d' e => ?_) (by rw [e1]; intro z; cases z)) rfl
  rw [e1] at e; cases e
  exact ⟨v, pe_glob (gl_ok C h.1.1) (by rw [C.mg]; exact e2) e3 (nOk1 h.1.2), e4⟩
/-! ### operations -/
theorem units_ok (C : Ck F I k W X) : X.A.units + 64 < cLine := C.room.units
theorem k_bin (C : Ck F I k W X) {o : Op} {op : Operator} (ho : binO o = some op) (hpk : isPk ca = true → pur cb = true) (ha : OkE F c1 c0 W X ca a) (hb : OkE F c1 c0 W X cb b) : OkE F c1 c0 W X (.op o (.cons ca (.cons cb .nil))) (.BinOp a op b p) := by
  refine OkE.pl rfl ?_ rfl
  cases o <;> first | (cases ho; done) | skip
  all_goals cases ho
  · have h := @op_addA X
    rw [C.K] at h
    exact sn_bin h ok_add ha.2 hb.2 hpk
  · exact sn_bin op_sub ok_sub ha.2 hb.2 hpk
  · exact sn_bin op_mul ok_mul ha.2 hb.2 hpk
  · exact sn_bin op_fdiv ok_fdiv ha.2 hb.2 hpk
  · exact sn_bin op_mod ok_mod ha.2 hb.2 hpk
theorem cmp_r (C : Ck F I k W X) {o : Op} {op : CmpOp} (ho : cmpO o = some op) : ∃ r, OpR X (compareOp op) r ∧ Ok2 F o r := by
  cases o <;> first | (cases ho; done) | skip
  all_goals cases ho
  · have h := op_eqA (units_ok C); rw [C.K] at h; exact ⟨_, h, ok_eq⟩
  · have h := op_neA (units_ok C); rw [C.K] at h; exact ⟨_, h, ok_ne⟩
  · exact ⟨_, op_ltA, ok_lt⟩
  · exact ⟨_, op_leA, ok_le⟩
  · exact ⟨_, op_gtA, ok_gt⟩
  · exact ⟨_, op_geA, ok_ge⟩
  · have h := @op_inA X; rw [C.P, C.w, C.K] at h; exact ⟨_, h, ok_in⟩
  · have h := @op_notInA X; rw [C.P, C.w, C.K] at h; exact ⟨_, h, ok_notin⟩
  · exact ⟨_, op_isA, ok_is⟩
  · exact ⟨_, op_isnotA, ok_isnot⟩
theorem k_cmp (C : Ck F I k W X) {o : Op} {op : CmpOp} (ho : cmpO o = some op) (hs : nse b = true) (hpk : isPk ca = true → pur cb = true) (ha : OkE F c1 c0 W X ca a) (hb : OkE F c1 c0 W X cb b) : OkE F c1 c0 W X (.op o (.cons ca (.cons cb .nil))) (.Compare a [op] [b] p) := by
  obtain ⟨r, h1, h2⟩ := cmp_r C ho
  exact OkE.mk' rfl (sn_cmp h1 h2 ha.2 hb.2 hpk (nse_mark hs op)) (sn_cmpT h1 h2 ha.2 hb.2 hpk (nse_mark hs op))
theorem k_chn (C : Ck F I k W X) {o o' : Op} {op op' : CmpOp} (ho : cmpO o = some op) (ho' : cmpO o' = some op') (hs : nse c = true) (pa : pur ca = true) (pb : pur cb = true) (pc : pur cc = true) (ha : OkE F c1 c0 W X ca a) (hb : OkE F c1 c0 W X cb b) (hc : OkE F c1 c0 W X cc c) :
    OkE F c1 c0 W X (.chn o o' ca cb cc) (.Compare a [op, op'] [b, c] p) := by
  obtain ⟨r, h1, h2⟩ := cmp_r C ho
  obtain ⟨r', h1', h2'⟩ := cmp_r C ho'
  exact OkE.mk' rfl (sn_chn h1 h1' h2 h2' pa pb pc ha.2 hb.2 hc.2 (nse_last op op' hs)) (st_chn h1 h1' h2 h2' pa pb pc ha.2 hb.2 hc.2 (nse_last op op' hs))
theorem k_neg (ha : OkE F c1 c0 W X ca a) : OkE F c1 c0 W X (.op .neg (.cons ca .nil)) (.UnaryOp .USub a p) := OkE.pl rfl (sn_un un_neg ok_neg ha.2) rfl
theorem k_idx (C : Ck F I k W X) (hs : nsl b = true) (hpk : isPk ca = true → pur cb = true) (ha : OkE F c1 c0 W X ca a) (hb : OkE F c1 c0 W X cb b) : OkE F c1 c0 W X (.op .idx (.cons ca (.cons cb .nil))) (.Subscript a b p) := by
  have h := @ix_all X
  rw [C.P, C.w, C.K] at h
  exact OkE.pl rfl (sn_ix h ok_idx ha.2 hb.2 hpk (nsl_ok hs)) rfl
theorem bn_in {y : Str} {o : Op} (h : bfO o = some y) : y ∈ bnL ∧ y ≠ "__name__" := by
  cases o <;> first | (cases h; done) | skip
  all_goals (cases h; exact ⟨by decide, by decide⟩)
theorem k_bf (C : Ck F I k W X) (NF : Nf F I.nm) {o : Op} {y : Str} (hg : glB I.sc y = true) (hn : nOk y = true) (ho : bfO o = some y) (hopd : okOpd es = true) (hne : args ≠ []) (hl : OkL F c1 c0 W X es args) : OkE F c1 c0 W X (.op o es) (.Call (.Name y p) args [] pos) := by
  obtain ⟨h1, h2, h3, _⟩ := hl
  obtain ⟨hb, hnn⟩ := bn_in ho
  have hm : X.mg y = none := by rw [C.mg]; exact NF.bn y hb
  cases args with
  | nil => exact absurd rfl hne
  | cons e args =>
    rw [List.all_cons, Bool.and_eq_true] at h3
    have st := star_cons (es := args) (env := X.env) h3.1
    have pl := back_any (pos := pos) (star_all (env := X.env) h3.2)
    refine OkE.pl rfl ?_ rfl
    cases o <;> first | (cases ho; done) | skip
    all_goals cases ho
    · have hc := @call_lenA X
      rw [C.K] at hc
      exact sn_callB hc ok_len (gl_ok C hg) hm (by decide +kernel) (h2 hopd) hnn (nOk1 hn) st pl
    · exact sn_callB call_abs ok_abs (gl_ok C hg) hm (by decide +kernel) (h2 hopd) hnn (nOk1 hn) st pl
    · exact sn_callTy call_int1 ok_int (gl_ok C hg) hm (by decide +kernel) (h2 hopd) hnn (nOk1 hn) st pl
    · have hc := @call_tuple_of X
      rw [C.K] at hc
      exact sn_callTy hc ok_tuple (gl_ok C hg) hm (by decide +kernel) (h2 hopd) hnn (nOk1 hn) st pl
    · have hc := @call_list_of X
      rw [C.K] at hc
      exact sn_callTy hc ok_list (gl_ok C hg) hm (by decide +kernel) (h2 hopd) hnn (nOk1 hn) st pl
    · exact sn_callB (call_sortedD C.calm) ok_sorted (gl_ok C hg) hm (by decide +kernel) (h2 hopd) hnn (nOk1 hn) st pl
theorem tyT_boot : ∀ s ∈ tyT, bootBuiltins (Str.ofString s) = some (.type s) ∧ Str.ofString s ∈ bnL ∧ Str.ofString s ≠ "__name__" := by decide +kernel
theorem k_isi (C : Ck F I k W X) (NF : Nf F I.nm) {t : Sum String Nat} {y : Str} (hg : glB I.sc y = true) (hn : nOk y = true) (ht : isTyB I t b = true) (s1 : nst a = true) (s2 : nst b = true) (hy : y = ("isinstance" : Str)) (ha : OkE F c1 c0 W X ca a) :
    OkE F c1 c0 W X (.op (.isi [t]) (.cons ca .nil)) (.Call (.Name y p) [a, b] [] pos) := by
  subst hy
  refine OkE.pl rfl ?_ rfl
  have st := star_cons (es := [b]) (env := X.env) s1
  have st2 := star_cons (es := []) (env := X.env) s2
  have pl := back_any (pos := pos) (star_all (env := X.env) (es := [b]) (by rw [List.all_cons, s2]; rfl))
  unfold isTyB at ht
  split at ht
  · rename_i z pz
    simp only [Bool.and_eq_true] at ht
    obtain ⟨⟨g1, g2⟩, g3⟩ := ht
    cases t with
    | inl s =>
      simp only [Bool.and_eq_true, decide_eq_true_eq] at g3
      obtain ⟨g3, rfl⟩ := g3
      have hs : s ∈ tyT := List.elem_iff.mp g3
      obtain ⟨q1, q2, q3⟩ := tyT_boot s hs
      exact sn_isi C.toAt NF.tt (.inl ⟨s, rfl, hs⟩) (gl_ok C hg) (by rw [C.mg]; exact NF.bn _ (by decide)) ha.2 (pe_bltn (v := .ty s) (gl_ok C g1) (by rw [C.mg]; exact NF.bn _ q2) q1 rfl q3 (nOk1 g2)) st st2 pl
    | inr i =>
      have g3 := of_decide_eq_true g3
      obtain ⟨q1, cl, _, q2, _⟩ := NF.cn z i g3
      exact sn_isi C.toAt NF.tt (.inr ⟨i, cl, rfl, q2⟩) (gl_ok C hg) (by rw [C.mg]; exact NF.bn _ (by decide)) ha.2 (pe_glob (v := .ref (F.c.ca i)) (gl_ok C g1) (by rw [C.mg]; exact q1) rfl (nOk1 g2)) st st2 pl
  · cases ht
theorem isCst_ok (h : isCstS co = true) : ∃ s, co = .cst (.str s) := by
  unfold isCstS at h
  split at h
  · exact ⟨_, rfl⟩
  · cases h
theorem k_mt (C : Ck F I k W X) {o : Op} {y : Str} {ob : Expr} (ho : mtO o = some y) (hn : nba ob = true) (hl : (apos.endLine == pos.line) = true) (hlen : args.length < 30) (hne : args ≠ []) (hpk : isPk co = true → purs es = true) (hp : purs es = true ∨ (isCstS co = true ∧ o ≠ .index_)) (hopd : okOpd es = true)
    (hob : OkE F c1 c0 W X co ob) (hL : OkL F c1 c0 W X es args) : OkE F c1 c0 W X (.op o (.cons co es)) (.Call (.Attribute ob y apos) args [] pos) := by
  obtain ⟨h1, h2, h3, _⟩ := hL
  have fw := few_ok (X := X) (pos := pos) h3 hlen
  cases args with
  | nil => exact absurd rfl hne
  | cons e args =>
    rw [List.all_cons, Bool.and_eq_true] at h3
    have st := star_cons (es := args) (env := X.env) h3.1
    have pl := back_any (pos := pos) (star_all (env := X.env) h3.2)
    have nb := nba_ok hn y X.env (eval ob X.env)
    refine OkE.pl rfl ?_ rfl
    cases o <;> first | (cases ho; done) | skip
    all_goals cases ho
    · exact sn_index C.K hob.2 (h2 hopd) hpk fw hl st pl (hp.elim id fun z => absurd rfl z.2) nb
    · exact sn_find C.K hob.2 (h2 hopd) hpk fw hl st pl (hp.imp id fun z => isCst_ok z.1) nb
    · exact sn_join C.K hob.2 (h2 hopd) hpk fw hl st pl (hp.imp id fun z => isCst_ok z.1) nb
    · exact sn_split C.K hob.2 (h2 hopd) hpk fw hl st pl (hp.imp id fun z => isCst_ok z.1) nb
/-! ### fields, calls -/
theorem k_fld (C : Ck F I k W X) (NF : Nf F I.nm) {f : Nat} {ob : Expr} {y : Str} (hy : y = I.nm.nm f) (hn : nba ob = true) (hpk : isPk ce = false) (hob : OkE F c1 c0 W X ce ob) : OkE F c1 c0 W X (.fld ce f) (.Attribute ob y p) := by
  rw [← NF.nmE] at hy
  subst hy
  exact OkE.pl rfl (sn_fld (hob.v hpk) C.K (nba_ok hn _ _ _)) rfl
theorem k_pkf (C : Ck F I k W X) (NF : Nf F I.nm) {f : Nat} {ob : Expr} {y : Str} (hy : y = I.nm.nm f) (hn : nba ob = true) (hpk : isPk ce = false) (hob : OkE F c1 c0 W X ce ob) : OkE F c1 c0 W X (.pkf ce f) (.Attribute ob y p) := by
  rw [← NF.nmE] at hy
  subst hy
  exact OkE.pk rfl (so_pkf (hob.v hpk) C.K (nba_ok hn _ _ _))
variable (L1 : Lv F (k + 1) c1) (L0 : Lv F k c0)
include L1 in
theorem k_call (C : Ck F I k W X) (NF : Nf F I.nm) {f : Nat} {y : Str} (hg : glB I.sc y = true) (hn : nOk y = true) (hf : I.nm.fn.lookup y = some f) (hpk : noPk es = true) (hnil : args = [] → es = .nil) (hL : OkL F c1 c0 W X es args) : OkE F c1 c0 W X (.call f es) (.Call (.Name y p) args [] pos) := by
  obtain ⟨h1, h2, h3, _⟩ := hL
  obtain ⟨q1, Fn, q2⟩ := NF.fn y f hf
  refine OkE.pl rfl ?_ rfl
  cases args with
  | nil =>
    obtain rfl := hnil rfl
    exact sn_call0 C.toAtx L1 C.room C.tk q2 (gl_ok C hg) (by rw [C.mg]; exact q1) (nOk1 hn)
  | cons e args =>
    rw [List.all_cons, Bool.and_eq_true] at h3
    exact sn_call C.toAtx L1 C.room C.tk q2 (gl_ok C hg) (by rw [C.mg]; exact q1) (h1 hpk) (nOk1 hn) (star_cons h3.1) (back_any (star_all h3.2))
include L1 in
theorem k_meth (C : Ck F I k W X) (NF : Nf F I.nm) {m : Nat} {y : Str} {ob : Expr} (hy : y = I.nm.nm m) (hn : nba ob = true) (hl : (apos.endLine == pos.line) = true) (hlen : args.length < 30) (hpo : isPk co = false) (hpk : noPk es = true) (hnil : args = [] → es = .nil) (hob : OkE F c1 c0 W X co ob) (hL : OkL F c1 c0 W X es args) :
    OkE F c1 c0 W X (.meth m co es) (.Call (.Attribute ob y apos) args [] pos) := by
  rw [← NF.nmE] at hy
  subst hy
  obtain ⟨h1, h2, h3, _⟩ := hL
  have me := meth_eq (m := F.c.nm m) (env := X.env) hn h3 hlen hl
  refine OkE.pl rfl ?_ rfl
  cases args with
  | nil =>
    obtain rfl := hnil rfl
    exact sn_meth0 NF.cf C.toAtx L1 C.room C.tk NF.ms (hob.v hpo) me
  | cons e args =>
    rw [List.all_cons, Bool.and_eq_true] at h3
    exact sn_meth NF.cf C.toAtx L1 C.room C.tk NF.ms (hob.v hpo) (h1 hpk) (star_cons h3.1) (back_any (star_all h3.2)) me
include L0 in
theorem k_make (C : Ck F I k W X) (NF : Nf F I.nm) {i : Nat} {y : Str} (hg : glB I.sc y = true) (hn : nOk y = true) (hf : I.nm.cn.lookup y = some i) (hpk : noPk es = true) (hnil : args = [] → es = .nil) (hL : OkL F c1 c0 W X es args) : OkE F c1 c0 W X (.make i es) (.Call (.Name y p) args [] pos) := by
  obtain ⟨h1, h2, h3, _⟩ := hL
  obtain ⟨q1, cl, Fn, q2, q3⟩ := NF.cn y i hf
  refine OkE.pl rfl ?_ rfl
  cases args with
  | nil =>
    obtain rfl := hnil rfl
    exact sn_make0 NF.cf C.toAtx L0 C.room C.tk q2 q3 (gl_ok C hg) (by rw [C.mg]; exact q1) (nOk1 hn)
  | cons e args =>
    rw [List.all_cons, Bool.and_eq_true] at h3
    exact sn_make NF.cf C.toAtx L0 C.room C.tk q2 q3 (gl_ok C hg) (by rw [C.mg]; exact q1) (h1 hpk) (nOk1 hn) (star_cons h3.1) (back_any (star_all h3.2))
/-! ### lists of expressions -/
theorem okl_nil : OkL F c1 c0 W X .nil [] := ⟨fun _ => pa_nilV, fun _ => pa_nilO, rfl, fun _ h => absurd rfl h⟩
theorem okl_cons (hs : nst x = true) (he : OkE F c1 c0 W X ce x) (hL : OkL F c1 c0 W X ces xs) (hnil : xs = [] → ces = .nil) : OkL F c1 c0 W X (.cons ce ces) (x :: xs) := by
  obtain ⟨h1, h2, h3, h4⟩ := hL
  refine ⟨fun h => ?_, fun h => ?_, ?_, fun h _ pos => ?_⟩
  · rw [noPk, Bool.and_eq_true] at h
    exact pa_consV (he.v (not_pk h.1)) (h1 h.2) (star_cons hs)
  · rw [okOpd, Bool.and_eq_true] at h
    exact pa_consO h.1 he.2 (h2 h.2) (star_cons hs)
  · rw [List.all_cons, hs, h3]; rfl
  · rw [noPk, Bool.and_eq_true] at h
    have hv := he.v (not_pk h.1)
    have ht := he.t (not_pk h.1)
    cases xs with
    | nil =>
      obtain rfl := hnil rfl
      exact ⟨sn_and1 hv, sw_and1 ht, sn_or1 hv, sw_or1 ht⟩
    | cons y ys =>
      obtain ⟨a1, a2, a3, a4⟩ := h4 h.2 (by intro z; cases z) pos
      exact ⟨sn_and hv a1, sw_and ht a2, sn_or hv a3, sw_or ht a4⟩
theorem k_and (hne : xs ≠ []) (hpk : noPk ces = true) (hL : OkL F c1 c0 W X ces xs) : OkE F c1 c0 W X (.and ces) (.BoolOp .And xs p) := by
  obtain ⟨a1, a2, _, _⟩ := hL.2.2.2 hpk hne p
  exact OkE.mk' rfl a1 a2.pt
theorem k_or (hne : xs ≠ []) (hpk : noPk ces = true) (hL : OkL F c1 c0 W X ces xs) : OkE F c1 c0 W X (.or ces) (.BoolOp .Or xs p) := by
  obtain ⟨_, _, a1, a2⟩ := hL.2.2.2 hpk hne p
  exact OkE.mk' rfl a1 a2.pt
end
end Tk
/- Snd17 -/
set_option Elab.async false
set_option linter.all false
set_option maxRecDepth 100000
set_option maxHeartbeats 4000000
namespace Tk
open PySem PySem.Spec PyProof.Rows L2
section
variable {F : Fx} {I : If} {k : Nat} {W : WX} {X : Cx} {c1 c0 : CallFn} {ce ca cb cc co : CE} {ces es : CEs} {x a b c : Expr} {xs args : List Expr} {pos apos p : Pos}
/-! ### comprehensions -/
theorem loc_ok (C : Ck F I k W X) {y : Str} (h : locB I y = true) : L2.Loc X.env.scope y ∧ (X.fn y = true ∨ X.env.scope.names.lookup y = some .local) := by
  unfold locB at h
  unfold L2.Loc
  rw [C.sc]
  split at h
  · exact ⟨.inl (by assumption), .inr (by assumption)⟩
  · exact ⟨.inr (by assumption), .inl (C.fn y h)⟩
  · cases h
theorem assign_len {env : Env} : ∀ {es : List Expr}, (assignEach es env).length = es.length
  | [] => rfl
  | e :: es => by
    have : (assignEach (e :: es) env).length = (assignEach es env).length + 1 := by cases e <;> rfl
    rw [this, assign_len]; rfl
theorem tgL_ok (C : Ck F I k W X) : ∀ {tg : List Nat} {es : List Expr}, tgL I tg es = true → PGs X es (gNs tg) ∧ es.length = tg.length ∧ (assignEach es X.env).findIdx? (·.1) = none
  | [], [], _ => ⟨pgs_nil, rfl, rfl⟩
  | i :: is, e :: es, h => by
    cases e with
    | Name y py =>
      have h : (decide (I.N[i]? = some y) && locB I y && tgL I is es) = true := h
      simp only [Bool.and_eq_true, decide_eq_true_eq] at h
      obtain ⟨g1, g2, g3⟩ := tgL_ok C h.2
      obtain ⟨l1, l2⟩ := loc_ok C h.1.2
      refine ⟨pgs_cons (pg_name C.nd (by rw [C.N]; exact h.1.1) l1 l2) g1 rfl, by rw [List.length_cons, g2]; rfl, ?_⟩
      show ((false, _) :: assignEach es X.env).findIdx? (·.1) = none
      rw [List.findIdx?_cons, g3]
      rfl
    | _ => cases h
  | [], _ :: _, h => by cases h
  | _ :: _, [], h => by cases h
theorem tgB_ok (C : Ck F I k W X) {tg : List Nat} {one : Bool} {e : Expr} (h : tgB I tg one e = true) : PG X e (gT F.K tg one) := by
  unfold tgB at h
  unfold gT
  cases one with
  | true =>
    rw [if_pos rfl] at h ⊢
    split at h
    · simp only [Bool.and_eq_true, decide_eq_true_eq] at h
      obtain ⟨l1, l2⟩ := loc_ok C h.2
      exact pg_name C.nd (by rw [C.N]; exact h.1) l1 l2
    · cases h
  | false =>
    rw [if_neg (by decide)] at h ⊢
    split at h
    · obtain ⟨g1, g2, g3⟩ := tgL_ok C h
      rw [← C.K]
      exact pg_tup (n := tg.length) C.calm g1 (by rw [assign_len]; exact g2) g3
    · cases h
theorem ck_blk (C : Ck F I k W X) {s : Shared} {H : Hp} {scope : Scope} {cl : Addr} {cls : List (Str × Addr)} {fp : List Addr} : Ck F (I.blk scope) k WF (X.blk s H scope (compEnvC scope cls cl X.env) fp) where
  P := C.P
  w := C.w
  K := C.K
  mg := C.mg
  base := C.base
  calm := C.calm
  nd := C.nd
  N := C.N
  sc := by
    show relabel scope X.env = relS scope I.sc
    rw [← C.sc]
    rfl
  fn := fun y h => h
  room := C.room
  kpos := C.kpos
  tk := takes0
theorem own_of (N : List Str) (own : List Nat) : (ownOf N own).map (·.2) = own := by
  unfold ownOf
  rw [List.map_map]
  exact List.map_id _
theorem k_comp (C : Ck F I k W X) {own tg : List Nat} {one : Bool} {it elt : CE} {cds : CEs} {tE iE ex : Expr} {ifs : List Expr} {scope : Scope} (hs : nse iE = true) (hb : blkC I.N I.sc scope (ownOf I.N own) = true) (ht : tg.all (own.elem ·) = true) (hpe : isPk elt = false)
    (hit : PI X tE iE (tei F c1 c0 W it)) (hc : cds = .nil ∨ ∃ c, cds = .cons c .nil)
    (htg : ∀ X', Ck F (I.blk scope) k WF X' → PG X' tE (gT F.K tg one)) (hel : ∀ X', Ck F (I.blk scope) k WF X' → OkE F c1 c0 WF X' elt ex) (hcd : ∀ X', Ck F (I.blk scope) k WF X' → PTs X' ifs (ttC F c1 c0 cds)) :
    OkE F c1 c0 W X (.comp own tg one it cds elt) (.ListComp ex [⟨tE, iE, ifs, 0⟩] scope p) := by
  have ok : BlkOk X.N X.env.scope scope (ownOf I.N own) := by
    have := blkOk_by hb
    rw [← C.N, ← C.sc] at this
    rw [C.N] at this ⊢
    exact this
  have pe := pe_lc (pos := p) C.calm C.nd hit ok (fun s H cl cls fp => htg _ (ck_blk C)) (fun s H cl cls fp => hcd _ (ck_blk C)) (fun s H cl cls fp => (hel _ (ck_blk C)).v hpe) (fun z => nse_fold hs X.env z)
  refine OkE.pl rfl (PE.imp pe fun σ H Q h => ?_) rfl
  rw [own_of]
  exact comp_of hc (fun i hi => List.elem_iff.mp (List.all_eq_true.mp ht i hi)) h
theorem chks_len {I : If} : ∀ {es : CEs} {xs : List Expr}, chks I es xs = true → (xs = [] ∧ es = .nil) ∨ (∃ a ca, xs = [a] ∧ es = .cons ca .nil) ∨ (∃ a b ca cb, xs = [a, b] ∧ es = .cons ca (.cons cb .nil)) ∨ 3 ≤ xs.length
  | .nil, [], _ => .inl ⟨rfl, rfl⟩
  | .nil, _ :: _, h => by cases h
  | .cons _ _, [], h => by cases h
  | .cons _ .nil, [_], _ => .inr (.inl ⟨_, _, rfl, rfl⟩)
  | .cons _ .nil, _ :: _ :: _, h => by
    unfold chks at h
    rw [Bool.and_eq_true] at h
    cases h.2
  | .cons _ (.cons _ _), [_], h => by
    unfold chks at h
    rw [Bool.and_eq_true] at h
    cases h.2
  | .cons _ (.cons _ .nil), [_, _], _ => .inr (.inr (.inl ⟨_, _, _, _, rfl, rfl⟩))
  | .cons _ (.cons _ (.cons _ _)), [_, _], h => by
    unfold chks at h
    rw [Bool.and_eq_true] at h
    have h := h.2
    unfold chks at h
    rw [Bool.and_eq_true] at h
    cases h.2
  | .cons _ (.cons _ _), _ :: _ :: _ :: _, _ => .inr (.inr (.inr (by simp)))
theorem k_rng (C : Ck F I k W X) (NF : Nf F I.nm) {tg : Expr} (hg : glB I.sc "range" = true) (hopd : okOpd es = true) (hL : OkL F c1 c0 W X es args) (hl : (args = [] ∧ es = .nil) ∨ (∃ a ca, args = [a] ∧ es = .cons ca .nil) ∨ (∃ a b ca cb, args = [a, b] ∧ es = .cons ca (.cons cb .nil)) ∨ 3 ≤ args.length) (hn : args.length = 1 ∨ args.length = 2) :
    PI X tg (.Call (.Name "range" p) args [] pos) (tei F c1 c0 W (.rng es)) := by
  have hm : X.mg "range" = none := by rw [C.mg]; exact NF.bn _ (by decide)
  obtain ⟨_, h2, h3, _⟩ := hL
  rcases hl with ⟨rfl, _⟩ | ⟨a, ca, rfl, rfl⟩ | ⟨a, b, ca, cb, rfl, rfl⟩ | hl
  · rcases hn with hn | hn <;> cases hn
  · rw [List.all_cons, Bool.and_eq_true] at h3
    exact sn_rng1 (gl_ok C hg) hm (h2 hopd) (star_cons h3.1)
  · rw [List.all_cons, Bool.and_eq_true, List.all_cons, Bool.and_eq_true] at h3
    exact sn_rng2 (gl_ok C hg) hm (h2 hopd) (by rw [star_cons h3.1, star_cons h3.2.1]; rfl) (star_cons h3.2.1)
  · omega
theorem chks_nil {I : If} {es : CEs} (h : chks I es [] = true) : es = .nil := by
  cases es with
  | nil => rfl
  | cons e es => cases h
/-! ### all expressions -/
variable (L1 : Lv F (k + 1) c1) (L0 : Lv F k c0)
include L1 L0
mutual
theorem snd : ∀ (ce : CE) (x : Expr) (I : If) (W : WX) (X : Cx), Ck F I k W X → Nf F I.nm → chk I ce x = true → OkE F c1 c0 W X ce x
  | .cst d, x, I, W, X, C, NF, h => k_cst h
  | .var i, x, I, W, X, C, NF, h => by
    unfold chk at h
    split at h
    · exact OkE.pl rfl (sn_var (var_ok C h)) rfl
    · cases h
  | .frz i, x, I, W, X, C, NF, h => by
    unfold chk at h
    split at h
    · exact OkE.pl rfl (sn_frz (var_ok C h)) rfl
    · cases h
  | .mov i, x, I, W, X, C, NF, h => by
    unfold chk at h
    split at h
    · exact OkE.pl rfl (sn_mov (var_ok C h)) rfl
    · cases h
  | .pk i, x, I, W, X, C, NF, h => by
    unfold chk at h
    split at h
    · exact OkE.pk rfl (so_pk (var_ok C h))
    · cases h
  | .glo g, x, I, W, X, C, NF, h => by
    unfold chk at h
    split at h
    · exact k_glo C NF h
    · cases h
  | .fld e f, x, I, W, X, C, NF, h => by
    unfold chk at h
    split at h
    · simp only [Bool.and_eq_true, decide_eq_true_eq] at h
      exact k_fld C NF h.1.1.1 h.1.1.2 (not_pk h.1.2) (snd e _ I W X C NF h.2)
    · cases h
  | .pkf e f, x, I, W, X, C, NF, h => by
    unfold chk at h
    split at h
    · simp only [Bool.and_eq_true, decide_eq_true_eq] at h
      exact k_pkf C NF h.1.1.1 h.1.1.2 (not_pk h.1.2) (snd e _ I W X C NF h.2)
    · cases h
  | .pki e k', x, I, W, X, C, NF, h => by
    unfold chk at h
    split at h
    · simp only [Bool.and_eq_true] at h
      exact OkE.pk rfl (so_pki C.toAt (snd e _ I W X C NF h.1.2).2 (snd k' _ I W X C NF h.2).2 (or_pk h.1.1.2) (nsl_ok h.1.1.1))
    · cases h
  | .fz e, x, I, W, X, C, NF, h => by
    unfold chk at h
    rw [Bool.and_eq_true] at h
    have z := snd e x I W X C NF h.2
    have hv := z.v (not_pk h.1)
    refine OkE.mk' rfl (sn_fz hv) ?_
    exact PT.imp (z.t (not_pk h.1)) fun σ H Q hq => by
      obtain ⟨G, S, T, hs, hq⟩ := tet_iff.mp hq
      refine tet_iff.mpr ⟨G, S, T, hs, ?_⟩
      have e0 : ev F.PG c1 c0 (.fz e) S = (ev F.PG c1 c0 e S).bind fun m S => .ok (.val m.fz) S := rfl
      rw [e0] at hq
      cases q : ev F.PG c1 c0 e S with
      | ok m S' =>
        rw [q] at hq
        obtain ⟨b, e1, hq⟩ := hq
        refine ⟨b, ?_, hq⟩
        cases m with
        | val d => exact e1
        | lst _ => cases e1
        | dct _ => cases e1
      | exc _ _ _ => rw [q] at hq; exact hq
      | bad => rw [q] at hq; exact hq
  | .tup es, x, I, W, X, C, NF, h => by
    unfold chk at h
    split at h
    · rw [Bool.and_eq_true] at h
      exact OkE.pl rfl (sn_tup ((snds es _ I W X C NF h.2).1 h.1)) rfl
    · cases h
  | .lst es, x, I, W, X, C, NF, h => by
    unfold chk at h
    split at h
    · rw [Bool.and_eq_true] at h
      exact OkE.pl rfl (sn_lst ((snds es _ I W X C NF h.2).1 h.1)) rfl
    · cases h
  | .dnew, x, I, W, X, C, NF, h => by
    unfold chk at h
    split at h
    · exact OkE.pl rfl sn_dnew rfl
    · cases h
  | .op o es, x, I, W, X, C, NF, h => by
    unfold chk at h
    split at h
    · -- BinOp
      split at h
      · rename_i ca cb
        simp only [Bool.and_eq_true, decide_eq_true_eq] at h
        exact k_bin C h.1.1.1 (or_pk h.1.1.2) (snd ca _ I W X C NF h.1.2) (snd cb _ I W X C NF h.2)
      · cases h
    · split at h
      · rename_i ca cb
        simp only [Bool.and_eq_true, decide_eq_true_eq] at h
        exact k_cmp C h.1.1.1.1 h.1.1.1.2 (or_pk h.1.1.2) (snd ca _ I W X C NF h.1.2) (snd cb _ I W X C NF h.2)
      · cases h
    · split at h
      · simp only [Bool.and_eq_true, decide_eq_true_eq] at h
        obtain ⟨rfl, h2⟩ := h
        exact k_neg (snd _ _ I W X C NF h2)
      · cases h
    · split at h
      · rename_i ca cl
        split at h
        · simp only [Bool.and_eq_true, decide_eq_true_eq] at h
          obtain ⟨⟨⟨rfl, h2⟩, h3⟩, h4⟩ := h
          exact OkE.pl rfl (sn_slcL C.K (snd ca _ I W X C NF h3).2 (snd cl _ I W X C NF h4).2 (or_pk h2)) rfl
        · simp only [Bool.and_eq_true, decide_eq_true_eq] at h
          obtain ⟨⟨⟨rfl, h2⟩, h3⟩, h4⟩ := h
          exact OkE.pl rfl (sn_slcH C.K (snd ca _ I W X C NF h3).2 (snd cl _ I W X C NF h4).2 (or_pk h2)) rfl
        · cases h
      · rename_i ca cl ch
        split at h
        · simp only [Bool.and_eq_true, decide_eq_true_eq] at h
          obtain ⟨⟨⟨⟨⟨rfl, p1⟩, p2⟩, h3⟩, h4⟩, h5⟩ := h
          exact OkE.pl rfl (sn_slcLH C.K (snd ca _ I W X C NF h3).2 (snd cl _ I W X C NF h4).2 (snd ch _ I W X C NF h5).2 (by rw [purs, purs, p1, p2]; rfl)) rfl
        · cases h
      · cases h
    · split at h
      · rename_i ca cb
        simp only [Bool.and_eq_true, decide_eq_true_eq] at h
        obtain ⟨⟨⟨⟨rfl, h2⟩, h3⟩, h4⟩, h5⟩ := h
        exact k_idx C h2 (or_pk h3) (snd ca _ I W X C NF h4) (snd cb _ I W X C NF h5)
      · cases h
    · rw [Bool.and_eq_true, Bool.and_eq_true] at h
      obtain ⟨⟨hg, hn⟩, h⟩ := h
      split at h
      · split at h
        · simp only [Bool.and_eq_true, decide_eq_true_eq] at h
          obtain ⟨⟨⟨⟨h1, h2⟩, h3⟩, h4⟩, h5⟩ := h
          exact k_isi C NF hg hn h1 h2 h3 h4 (snd _ _ I W X C NF h5)
        · cases h
      · simp only [Bool.and_eq_true, decide_eq_true_eq] at h
        obtain ⟨⟨⟨h1, h2⟩, h3⟩, h4⟩ := h
        exact k_bf C NF hg hn h1 h2 (by intro z; subst z; cases h3) (snds es _ I W X C NF h4)
    · split at h
      · rename_i co cargs
        simp only [Bool.and_eq_true, Bool.or_eq_true, decide_eq_true_eq] at h
        obtain ⟨⟨⟨⟨⟨⟨⟨⟨⟨h1, h2⟩, h3⟩, h4⟩, h5⟩, h6⟩, h7⟩, h8⟩, h9⟩, h10⟩ := h
        refine k_mt C h1 h2 h3 h4 (by intro z; subst z; cases h5) (fun z => ?_) (h7.imp id fun z => ⟨z.1, fun e => ?_⟩) h8 (snd co _ I W X C NF h9) (snds cargs _ I W X C NF h10)
        · rcases h6 with h6 | h6
          · rw [z] at h6; cases h6
          · exact h6
        · rw [e] at z; cases z.2
      · cases h
    · cases h
  | .chn o1 o2 ca cb cc, x, I, W, X, C, NF, h => by
    unfold chk at h
    split at h
    · simp only [Bool.and_eq_true, decide_eq_true_eq] at h
      obtain ⟨⟨⟨⟨⟨⟨⟨⟨h1, h2⟩, h3⟩, h4⟩, h5⟩, h6⟩, h7⟩, h8⟩, h9⟩ := h
      exact k_chn C h1 h2 h3 h4 h5 h6 (snd ca _ I W X C NF h7) (snd cb _ I W X C NF h8) (snd cc _ I W X C NF h9)
    · cases h
  | .and es, x, I, W, X, C, NF, h => by
    unfold chk at h
    split at h
    · simp only [Bool.and_eq_true] at h
      exact k_and (by intro z; subst z; cases h.1.1) h.1.2 (snds es _ I W X C NF h.2)
    · cases h
  | .or es, x, I, W, X, C, NF, h => by
    unfold chk at h
    split at h
    · simp only [Bool.and_eq_true] at h
      exact k_or (by intro z; subst z; cases h.1.1) h.1.2 (snds es _ I W X C NF h.2)
    · cases h
  | .not e, x, I, W, X, C, NF, h => by
    unfold chk at h
    split at h
    · rw [Bool.and_eq_true] at h
      have z := snd e _ I W X C NF h.2
      exact OkE.mk' rfl (sn_not (z.v (not_pk h.1))) (st_not (z.t (not_pk h.1)))
    · cases h
  | .ite cc ca cb, x, I, W, X, C, NF, h => by
    unfold chk at h
    split at h
    · simp only [Bool.and_eq_true] at h
      obtain ⟨⟨⟨⟨⟨p1, p2⟩, p3⟩, h1⟩, h2⟩, h3⟩ := h
      have z1 := snd cc _ I W X C NF h1
      have z2 := snd ca _ I W X C NF h2
      have z3 := snd cb _ I W X C NF h3
      exact OkE.mk' rfl (sn_ite (z1.t (not_pk p1)) (z2.v (not_pk p2)) (z3.v (not_pk p3))) (st_ite (z1.t (not_pk p1)) (z2.t (not_pk p2)) (z3.t (not_pk p3)))
    · cases h
  | .rng _, x, I, W, X, C, NF, h => by cases h
  | .call f es, x, I, W, X, C, NF, h => by
    unfold chk at h
    split at h
    · simp only [Bool.and_eq_true, decide_eq_true_eq] at h
      obtain ⟨⟨⟨⟨h1, h2⟩, h3⟩, h4⟩, h5⟩ := h
      exact k_call L1 C NF h1 h2 h3 h4 (fun z => by subst z; exact chks_nil h5) (snds es _ I W X C NF h5)
    · cases h
  | .meth m co es, x, I, W, X, C, NF, h => by
    unfold chk at h
    split at h
    · simp only [Bool.and_eq_true, decide_eq_true_eq] at h
      obtain ⟨⟨⟨⟨⟨⟨⟨h1, h2⟩, h3⟩, h4⟩, h5⟩, h6⟩, h7⟩, h8⟩ := h
      exact k_meth L1 C NF h1 h2 h3 h4 (not_pk h5) h6 (fun z => by subst z; exact chks_nil h8) (snd co _ I W X C NF h7) (snds es _ I W X C NF h8)
    · cases h
  | .make i es, x, I, W, X, C, NF, h => by
    unfold chk at h
    split at h
    · simp only [Bool.and_eq_true, decide_eq_true_eq] at h
      obtain ⟨⟨⟨⟨h1, h2⟩, h3⟩, h4⟩, h5⟩ := h
      exact k_make L0 C NF h1 h2 h3 h4 (fun z => by subst z; exact chks_nil h5) (snds es _ I W X C NF h5)
    · cases h
  | .comp own tg one it cds elt, x, I, W, X, C, NF, h => by
    unfold chk at h
    split at h
    · rename_i ex tE iE ifs scope _
      simp only [Bool.and_eq_true] at h
      obtain ⟨⟨⟨⟨⟨⟨⟨h1, h2⟩, h3⟩, h4⟩, h5⟩, h6⟩, h7⟩, h8⟩ := h
      refine k_comp C h1 h2 h4 (not_pk h5) ?_ ?_ (fun X' C' => tgB_ok C' h3) (fun X' C' => snd elt ex (I.blk scope) WF X' C' NF h6) (fun X' C' => ?_)
      · split at h7
        · rename_i es
          split at h7
          · rename_i args _
            simp only [Bool.and_eq_true, decide_eq_true_eq] at h7
            obtain ⟨⟨⟨⟨rfl, q2⟩, q3⟩, q5⟩, q4⟩ := h7
            exact k_rng C NF q2 q3 (snds es args I W X C NF q4) (chks_len q4) q5
          · cases h7
        · rw [Bool.and_eq_true] at h7
          exact sn_it C.K ((snd it _ I W X C NF h7.2).v (not_pk h7.1))
      · split at h8
        · exact .inl rfl
        · exact .inr ⟨_, rfl⟩
        · cases h8
      · split at h8
        · have : ifs = [] := by cases ifs <;> first | rfl | cases h8
          subst this
          exact pts_nil
        · rename_i cd
          split at h8
          · rw [Bool.and_eq_true] at h8
            exact pts_one ((snd cd _ (I.blk scope) WF X' C' NF h8.2).t (not_pk h8.1))
          · cases h8
        · cases h8
    · cases h
theorem snds : ∀ (es : CEs) (xs : List Expr) (I : If) (W : WX) (X : Cx), Ck F I k W X → Nf F I.nm → chks I es xs = true → OkL F c1 c0 W X es xs
  | .nil, xs, I, W, X, C, NF, h => by
    have : xs = [] := by cases xs <;> first | rfl | cases h
    subst this
    exact okl_nil
  | .cons e es, xs, I, W, X, C, NF, h => by
    unfold chks at h
    split at h
    · simp only [Bool.and_eq_true] at h
      exact okl_cons h.1.1 (snd e _ I W X C NF h.1.2) (snds es _ I W X C NF h.2) (fun z => by subst z; exact chks_nil h.2)
    · cases h
end
end
end Tk
/- Snd18 -/
set_option Elab.async false
set_option linter.all false
set_option maxRecDepth 100000
set_option maxHeartbeats 4000000
namespace Tk
open PySem PySem.Spec PyProof.Rows L2
/-! ### statements -/
def WantS (F : Fx) (W : WX) (G : Gh) (T : List (V × M)) (D : Ends) : RS → Prop
  | .ok .nx S' => ∀ σ' H' G', G.le G' → Stt F G' H' σ' S' T → D.nx σ' H'
  | .ok .brk S' => ∀ σ' H' G', G.le G' → Stt F G' H' σ' S' T → D.bk σ' H'
  | .ok .cnt S' => ∀ σ' H' G', G.le G' → Stt F G' H' σ' S' T → D.ct σ' H'
  | .ok (.ret m) S' => ∀ V σ' H' G', G.le G' → Stt F G' H' σ' S' ((V, m) :: T) → D.rt V H'
  | .exc x fs S' => ∀ σ', Xk F W G σ' T x fs S'
  | .bad => False
def tst (F : Fx) (c1 c0 : CallFn) (W : WX) (c : CS) : TS := fun D σ H => ∃ G S T, Stt F G H σ S T ∧ WantS F W G T D (es F.PG c1 c0 c S)
def tss (F : Fx) (c1 c0 : CallFn) (W : WX) (c : CSs) : TS := fun D σ H => ∃ G S T, Stt F G H σ S T ∧ WantS F W G T D (ess F.PG c1 c0 c S)
section
variable {F : Fx} {I : If} {k : Nat} {W : WX} {X : Cx} {c1 c0 : CallFn} {ce ca cb cc co : CE} {ces : CEs} {x a b c : Expr} {xs args : List Expr} {pos apos p spos : Pos} {G G' : Gh} {H H' : Hp} {σ : L2.St} {S : Sg} {T : List (V × M)} {D : Ends} {st : Stmt}
theorem PS.imp {t t' : TS} (h : PS X st t) (i : ∀ D σ H, t' D σ H → t D σ H) : PS X st t' := ⟨fun pins s σ H D I z => h.run pins s σ H D I (i D σ H z)⟩
theorem PSs.imp {sts : List Stmt} {t t' : TS} (h : PSs X sts t) (i : ∀ D σ H, t' D σ H → t D σ H) : PSs X sts t' := ⟨fun pins s σ H D I z => h.run pins s σ H D I (i D σ H z)⟩
theorem WantS.mono {r : RS} (h : WantS F W G T D r) (l : G.le G') : WantS F W G' T D r := by
  cases r with
  | ok f S =>
    cases f with
    | nx => exact fun σ' H' G1 le z => h σ' H' G1 (Gh.le_trans l le) z
    | brk => exact fun σ' H' G1 le z => h σ' H' G1 (Gh.le_trans l le) z
    | cnt => exact fun σ' H' G1 le z => h σ' H' G1 (Gh.le_trans l le) z
    | ret m => exact fun V σ' H' G1 le z => h V σ' H' G1 (Gh.le_trans l le) z
  | exc x fs S => exact fun σ' => (h σ').mono l
  | bad => exact h
/-- a part's value comes first -/
theorem st_of {K : M → Sg → RS} {Z : VK} (hs : Stt F G H σ S T) (h : WantS F W G T D ((ev F.PG c1 c0 ce S).bind K)) (k : ∀ x H1 G1 m S1, ev F.PG c1 c0 ce S = .ok m S1 → G.le G1 → (pur ce = true → Same H H1) → Stt F G1 H1 σ S1 ((x, m) :: T) → WantS F W G1 T D (K m S1) → Z x H1) :
    tev F c1 c0 W ce σ H Z := by
  have o1 : Out F W G σ T (ev F.PG c1 c0 ce S) := by
    cases q : ev F.PG c1 c0 ce S with
    | ok m S1 => trivial
    | exc x fs S1 => rw [q] at h; exact h σ
    | bad => rw [q] at h; exact h.elim
  refine tev_mono (tev_of hs o1) fun x H1 ⟨G1, m, S1, e1, l1, s1, h1⟩ => ?_
  rw [e1] at h
  exact k x H1 G1 m S1 e1 l1 s1 h1 (WantS.mono (r := K m S1) h l1)
/-- .. with more held -/
theorem st_of' {K : M → Sg → RS} {Z : VK} {v : V} {n : M} (hs : Stt F G H σ S ((v, n) :: T)) (h : WantS F W G T D ((ev F.PG c1 c0 ce S).bind K)) (k : ∀ x H1 G1 m S1, ev F.PG c1 c0 ce S = .ok m S1 → G.le G1 → (pur ce = true → Same H H1) → Stt F G1 H1 σ S1 ((x, m) :: (v, n) :: T) → WantS F W G1 T D (K m S1) → Z x H1) :
    tev F c1 c0 W ce σ H Z := by
  have o1 : Out F W G σ ((v, n) :: T) (ev F.PG c1 c0 ce S) := by
    cases q : ev F.PG c1 c0 ce S with
    | ok m S1 => trivial
    | exc x fs S1 => rw [q] at h; exact Xk.drop (h σ)
    | bad => rw [q] at h; exact h.elim
  refine tev_mono (tev_of hs o1) fun x H1 ⟨G1, m, S1, e1, l1, s1, h1⟩ => ?_
  rw [e1] at h
  exact k x H1 G1 m S1 e1 l1 s1 h1 (WantS.mono (r := K m S1) h l1)
theorem WantS.nxt {S1 : Sg} {σ1 : L2.St} (h : WantS F W G T D (.ok .nx S1)) (hs : Stt F G H σ1 S1 T) : D.nx σ1 H := h σ1 H G (Gh.le_refl G) hs
/-! ### small statements -/
theorem ss_asg {i : Nat} (h : PS X st (tAsg (tev F c1 c0 W ce) (gName i))) : PS X st (tst F c1 c0 W (.asg i ce)) := by
  refine PS.imp h fun D σ H ⟨G, S, T, hs, h⟩ => ?_
  refine st_of (K := fun m S => .ok .nx ⟨setSl S.sl i m, S.ob⟩) hs h fun x H1 G1 m S1 e1 l1 s1 h1 h => ?_
  obtain ⟨S', e, z⟩ := h1.put i
  subst e
  exact WantS.nxt h z
theorem ss_asgt {is : List Nat} (h : PS X st (tAsg (tev F c1 c0 W ce) (gT F.K is false))) : PS X st (tst F c1 c0 W (.asgt is ce)) := by
  refine PS.imp h fun D σ H ⟨G, S, T, hs, h⟩ => ?_
  refine st_of (K := fun m S => match bindT S.sl is false m with | some sl => .ok .nx ⟨sl, S.ob⟩ | none => .bad) hs h fun x H1 G1 m S1 e1 l1 s1 h1 h => ?_
  cases q : bindT S1.sl is false m with
  | none => rw [q] at h; exact h.elim
  | some sl =>
    rw [q] at h
    obtain ⟨f, r⟩ := h1.head
    cases m with
    | val d =>
      cases r with
      | val r => exact bind_ok r h1.tail q fun σ' z _ => WantS.nxt h z
    | lst _ => cases q
    | dct _ => cases q
theorem ss_exp (h : PS X st (tDrop (tev F c1 c0 W ce))) : PS X st (tst F c1 c0 W (.exp ce)) := by
  refine PS.imp h fun D σ H ⟨G, S, T, hs, h⟩ => ?_
  exact st_of (K := fun m S => .ok .nx S) hs h fun x H1 G1 m S1 e1 l1 s1 h1 h => WantS.nxt h h1.tail
theorem ss_ret (h : PS X st (tRet (tev F c1 c0 W ce))) : PS X st (tst F c1 c0 W (.ret ce)) := by
  refine PS.imp h fun D σ H ⟨G, S, T, hs, h⟩ => ?_
  exact st_of (K := fun m S => .ok (.ret m) S) hs h fun x H1 G1 m S1 e1 l1 s1 h1 h => h x σ H1 G1 (Gh.le_refl G1) h1
theorem ss_retn (h : PS X st tRetN) : PS X st (tst F c1 c0 W .retn) := by
  refine PS.imp h fun D σ H ⟨G, S, T, hs, h⟩ => ?_
  have h : ∀ V σ' H' G', G.le G' → Stt F G' H' σ' S ((V, .val .non) :: T) → D.rt V H' := h
  exact h .non σ H G (Gh.le_refl G) (hs.val .non)
theorem ss_nx (h : PS X st tNext) : PS X st (tst F c1 c0 W .pass) := PS.imp h fun D σ H ⟨G, S, T, hs, h⟩ => WantS.nxt h hs
theorem ss_brk (h : PS X st tBreak) : PS X st (tst F c1 c0 W .brk) := PS.imp h fun D σ H ⟨G, S, T, hs, h⟩ => h σ H G (Gh.le_refl G) hs
theorem ss_cnt (h : PS X st tCont) : PS X st (tst F c1 c0 W .cnt) := PS.imp h fun D σ H ⟨G, S, T, hs, h⟩ => h σ H G (Gh.le_refl G) hs
theorem ss_aug {i : Nat} {o : Op} {op : Operator} {y : Str} (C : Ck F I k W X) (hi : X.N[i]? = some y) (hx : L2.Loc X.env.scope y) (hf : X.fn y = true ∨ X.env.scope.names.lookup y = some .local) (he : PE X x (tev F c1 c0 W ce)) (ho : (o = .add ∧ op = .Add) ∨ (o = .sub ∧ op = .Sub)) :
    PS X (.AugAssign (.Name y p) op x pos) (tst F c1 c0 W (.aug i o ce)) := by
  have gen : ∀ (f : Int → Int → Int), PIp X op (ipI f) → (∀ a b m, doAug o a b = some m → i2 (fun i j => vi (f i j)) a b = some m) → PS X (.AugAssign (.Name y p) op x pos) (tst F c1 c0 W (.aug i o ce)) := fun f hp hd => by
    refine PS.imp (ps_aug (pos' := p) (pos := pos) C.nd hi hx he hp hf) fun D σ H ⟨G, S, T, hs, h⟩ => ?_
    have h : WantS F W G T D ((opt ((S.sl[i]?.join).bind M.only) S).bind fun a S => (ev F.PG c1 c0 ce S).bind fun b S => match doAug o a b with | some m => .ok .nx ⟨setSl S.sl i m, S.ob⟩ | none => .bad) := h
    cases q : S.sl[i]?.join with
    | none => rw [q] at h; exact h.elim
    | some ma =>
      rw [q] at h
      obtain ⟨v, g, e1, r⟩ := hs.slot q
      cases ma with
      | lst _ => exact h.elim
      | dct _ => exact h.elim
      | val d =>
        have h : WantS F W G T D ((ev F.PG c1 c0 ce S).bind fun b S => match doAug o (.val d) b with | some m => .ok .nx ⟨setSl S.sl i m, S.ob⟩ | none => .bad) := h
        refine ⟨v, e1, st_of (K := fun b S => match doAug o (.val d) b with | some m => .ok .nx ⟨setSl S.sl i m, S.ob⟩ | none => .bad) hs h fun z H1 G1 m S1 e2 l1 s1 h1 h => ?_⟩
        cases q2 : doAug o (.val d) m with
        | none => rw [q2] at h; exact h.elim
        | some n =>
          rw [q2] at h
          obtain ⟨i1, j1, ea, eb, en⟩ := i2_of (hd _ _ _ q2)
          subst eb
          cases ea
          cases en
          obtain rfl := rm_int r
          obtain ⟨f2, r2⟩ := h1.head
          obtain rfl := rm_int r2
          exact ⟨i1, j1, rfl, rfl, WantS.nxt h (h1.tail.setv (.int _) i)⟩
  rcases ho with ⟨rfl, rfl⟩ | ⟨rfl, rfl⟩
  · exact gen (fun i j => i + j) ip_add fun a b m h => h
  · exact gen (fun i j => i - j) ip_sub fun a b m h => h
/-! ### if, while, for -/
def kIf (P : Prog) (c1 c0 : CallFn) (ca cb : CSs) (m : M) (S : Sg) : RS := match m with
  | .val (.bl true) => ess P c1 c0 ca S
  | .val (.bl false) => ess P c1 c0 cb S
  | _ => .bad
theorem ss_ite {ca cb : CSs} {pa pb : List Stmt} (hc : PT X c (tet F c1 c0 W cc)) (ha : PSs X pa (tss F c1 c0 W ca)) (hb : PSs X pb (tss F c1 c0 W cb)) : PS X (.If c pa pb pos) (tst F c1 c0 W (.ite cc ca cb)) := by
  refine PS.imp (ps_if hc ha hb) fun D σ H ⟨G, S, T, hs, h⟩ => ?_
  have h : WantS F W G T D ((ev F.PG c1 c0 cc S).bind (kIf F.PG c1 c0 ca cb)) := h
  refine tet_iff.mpr ⟨G, S, T, hs, ?_⟩
  cases q : ev F.PG c1 c0 cc S with
  | bad => rw [q] at h; exact h.elim
  | exc x fs S1 => rw [q] at h; exact h σ
  | ok m S1 =>
    rw [q] at h
    have h : WantS F W G T D (kIf F.PG c1 c0 ca cb m S1) := h
    cases m with
    | lst _ => exact h.elim
    | dct _ => exact h.elim
    | val d =>
      cases d with
      | bl v =>
        refine ⟨v, rfl, fun H1 G1 le sm z => ?_⟩
        cases v with
        | true => rw [if_pos rfl]; exact ⟨G1, S1, T, z, WantS.mono h le⟩
        | false => rw [if_neg (by decide)]; exact ⟨G1, S1, T, z, WantS.mono h le⟩
      | _ => exact h.elim
theorem ss_whl {cb : CSs} {pb : List Stmt} (hp : PassesOwn (model X.prog X.w) X.A X.env X.xe) (hc : PT X c (tet F c1 c0 W cc)) (hb : PSs X pb (tss F c1 c0 W cb)) : PS X (.While c pb [] pos) (tst F c1 c0 W (.whl cc cb)) := by
  refine PS.imp (ps_while hp hc hb) fun D σ H ⟨G, S, T, hs, h⟩ => ?_
  refine ⟨fun n σ H => ∃ G S T, Stt F G H σ S T ∧ WantS F W G T D (wloop (ev F.PG c1 c0 cc) (ess F.PG c1 c0 cb) n S), ⟨fuel, G, S, T, hs, h⟩, ?_⟩
  rintro n σ H ⟨G, S, T, hs, h⟩
  cases n with
  | zero => exact h.elim
  | succ n =>
    have h : WantS F W G T D (match ev F.PG c1 c0 cc S with
      | .ok (.val (.bl true)) S => (match ess F.PG c1 c0 cb S with
        | .ok .nx S => wloop (ev F.PG c1 c0 cc) (ess F.PG c1 c0 cb) n S
        | .ok .cnt S => wloop (ev F.PG c1 c0 cc) (ess F.PG c1 c0 cb) n S
        | .ok .brk S => .ok .nx S
        | .ok (.ret m) S => .ok (.ret m) S
        | .exc c fs S => .exc c fs S
        | .bad => .bad)
      | .ok (.val (.bl false)) S => .ok .nx S
      | .ok _ _ => .bad
      | .exc c fs S => .exc c fs S
      | .bad => .bad) := h
    refine tet_iff.mpr ⟨G, S, T, hs, ?_⟩
    cases q : ev F.PG c1 c0 cc S with
    | bad => rw [q] at h; exact h.elim
    | exc x fs S1 => rw [q] at h; exact h σ
    | ok m S1 =>
      rw [q] at h
      cases m with
      | lst _ => exact h.elim
      | dct _ => exact h.elim
      | val d =>
        cases d with
        | bl v =>
          refine ⟨v, rfl, fun H1 G1 le sm z => ?_⟩
          cases v with
          | false => rw [if_neg (by decide)]; exact WantS.nxt (WantS.mono h le) z
          | true =>
            rw [if_pos rfl]
            refine ⟨fun σ' H' => ∃ m', m' < n + 1 ∧ ∃ G S T, Stt F G H' σ' S T ∧ WantS F W G T D (wloop (ev F.PG c1 c0 cc) (ess F.PG c1 c0 cb) m' S), fun σ' H' z => z, G1, S1, T, z, ?_⟩
            cases q2 : ess F.PG c1 c0 cb S1 with
            | bad => dsimp only at h; rw [q2] at h; exact h.elim
            | exc x fs S2 => dsimp only at h; rw [q2] at h; exact fun σ' => (h σ').mono le
            | ok f S2 =>
              dsimp only at h
              rw [q2] at h
              cases f with
              | nx => exact fun σ' H' G2 l2 z2 => ⟨n, Nat.lt_succ_self n, G2, S2, T, z2, WantS.mono (WantS.mono h le) l2⟩
              | cnt => exact fun σ' H' G2 l2 z2 => ⟨n, Nat.lt_succ_self n, G2, S2, T, z2, WantS.mono (WantS.mono h le) l2⟩
              | brk => exact fun σ' H' G2 l2 z2 => WantS.nxt (WantS.mono (WantS.mono h le) l2) z2
              | ret m => exact fun V σ' H' G2 l2 z2 => h V σ' H' G2 (Gh.le_trans le l2) z2
        | _ => exact h.elim
/-- a turn of the core's for -/
def fturn (P : Prog) (c1 c0 : CallFn) (tg : List Nat) (one : Bool) (b : CSs) : Tk.D → Sg → RS := fun d S => match bindT S.sl tg one (.val d) with
  | some sl => ess P c1 c0 b ⟨sl, S.ob⟩
  | none => .bad
theorem ss_for {tg : List Nat} {one : Bool} {it : CE} {cb : CSs} {pb : List Stmt} {tE iE : Expr} (hp : PassesOwn (model X.prog X.w) X.A X.env X.xe) (hc : X.calm = true) (hi : PI X tE iE (tei F c1 c0 W it)) (hg : PG X tE (gT F.K tg one)) (hb : PSs X pb (tss F c1 c0 W cb)) (hs : nse iE = true) :
    PS X (.For tE iE pb [] pos) (tst F c1 c0 W (.for tg one it cb)) := by
  refine PS.imp (ps_for hp hc hi hg hb (fun z => nse_fold hs X.env z)) fun D σ H ⟨G, S, T, hs, h⟩ => ?_
  have h : WantS F W G T D ((ev F.PG c1 c0 it S).bind fun m S => match m.items with | some xs => floop (fturn F.PG c1 c0 tg one cb) xs S | none => .bad) := h
  refine ⟨G, S, T, hs, ?_⟩
  cases q : ev F.PG c1 c0 it S with
  | bad => rw [q] at h; exact h.elim
  | exc x fs S1 => rw [q] at h; exact h σ
  | ok m S1 =>
    rw [q] at h
    have h : WantS F W G T D (match m.items with | some xs => floop (fturn F.PG c1 c0 tg one cb) xs S1 | none => .bad) := h
    cases qi : m.items with
    | none => rw [qi] at h; exact h.elim
    | some ds =>
      rw [qi] at h
      refine ⟨ds, qi, fun J v d H1 G1 le wk st => ?_⟩
      refine ⟨fun i n σ H => n = ds.length - i ∧ i ≤ ds.length ∧ ∃ G2 S2, G.le G2 ∧ Stt F G2 H σ S2 ((v, .val d) :: T) ∧ WantS F W G2 T D (floop (fturn F.PG c1 c0 tg one cb) (ds.drop i) S2), ⟨ds.length, by simp, Nat.zero_le _, G1, S1, le, st, by rw [List.drop_zero]; exact WantS.mono h le⟩, ?_⟩
      rintro i n σ2 H2 ⟨rfl, hi, G2, S2, l2, st2, h2⟩
      obtain ⟨f0, r0⟩ := st2.head
      have rd : RD F G2 H2 v d := by cases r0 with | val r0 => exact r0
      obtain ⟨w1, w2, w3⟩ := wk G2 H2 rd
      by_cases hlt : i < ds.length
      · refine .inr ⟨w1 i hlt, fun σ' H' => ∃ m', m' < ds.length - i ∧ (m' = ds.length - (i + 1) ∧ i + 1 ≤ ds.length ∧ ∃ G2 S2, G.le G2 ∧ Stt F G2 H' σ' S2 ((v, .val d) :: T) ∧ WantS F W G2 T D (floop (fturn F.PG c1 c0 tg one cb) (ds.drop (i + 1)) S2)), fun σ' H' z => z, fun x H' y => ?_⟩
        obtain ⟨rfl, y, ey, ry⟩ := w2 i x H' y hlt
        have ed : ds.drop i = y :: ds.drop (i + 1) := by
          rw [List.drop_eq_getElem_cons hlt]
          obtain ⟨_, z⟩ := List.getElem?_eq_some_iff.mp ey
          rw [z]
        rw [ed] at h2
        have h2 : WantS F W G2 T D (match fturn F.PG c1 c0 tg one cb y S2 with
          | .ok .nx S => floop (fturn F.PG c1 c0 tg one cb) (ds.drop (i + 1)) S
          | .ok .cnt S => floop (fturn F.PG c1 c0 tg one cb) (ds.drop (i + 1)) S
          | .ok .brk S => .ok .nx S
          | .ok (.ret m) S => .ok (.ret m) S
          | .exc c fs S => .exc c fs S
          | .bad => .bad) := h2
        cases qb : bindT S2.sl tg one (.val y) with
        | none =>
          have : fturn F.PG c1 c0 tg one cb y S2 = .bad := by unfold fturn; rw [qb]
          rw [this] at h2; exact h2.elim
        | some sl' =>
          have ec : fturn F.PG c1 c0 tg one cb y S2 = ess F.PG c1 c0 cb ⟨sl', S2.ob⟩ := by unfold fturn; rw [qb]
          rw [ec] at h2
          refine bind_ok ry st2 qb fun σ' st3 hw => ⟨G2, ⟨sl', S2.ob⟩, _, st3, ?_⟩
          cases q2 : ess F.PG c1 c0 cb ⟨sl', S2.ob⟩ with
          | bad => rw [q2] at h2; exact h2.elim
          | exc x fs S3 =>
            rw [q2] at h2
            exact fun σ' => Xk.drop (h2 σ')
          | ok f S3 =>
            rw [q2] at h2
            cases f with
            | nx => exact fun σ4 H4 G4 l4 z4 => ⟨ds.length - (i + 1), by omega, rfl, hlt, G4, S3, Gh.le_trans l2 l4, z4, WantS.mono h2 l4⟩
            | cnt => exact fun σ4 H4 G4 l4 z4 => ⟨ds.length - (i + 1), by omega, rfl, hlt, G4, S3, Gh.le_trans l2 l4, z4, WantS.mono h2 l4⟩
            | brk => exact fun σ4 H4 G4 l4 z4 => WantS.nxt (WantS.mono h2 l4) z4.tail
            | ret m => exact fun V σ4 H4 G4 l4 z4 => h2 V σ4 H4 G4 l4 (by
                obtain ⟨L, sl, rp⟩ := z4
                refine ⟨L, sl, Rp.outT.mpr ?_⟩
                have rp2 := rp.perm (List.perm_middle.trans ((List.Perm.cons _ List.perm_middle).trans (List.Perm.swap _ _ _)))
                exact rp2.tail)
      · have ei : i = ds.length := by omega
        subst ei
        refine .inl ⟨w3, ?_⟩
        rw [List.drop_length] at h2
        exact WantS.nxt h2 st2.tail
theorem ss_nil : PSs X [] (tss F c1 c0 W .nil) := PSs.imp pss_nil fun D σ H ⟨G, S, T, hs, h⟩ => WantS.nxt h hs
theorem ss_cons {cs : CS} {css : CSs} {sts : List Stmt} (h1 : PS X st (tst F c1 c0 W cs)) (h2 : PSs X sts (tss F c1 c0 W css)) : PSs X (st :: sts) (tss F c1 c0 W (.cons cs css)) := by
  refine PSs.imp (pss_cons h1 h2) fun D σ H ⟨G, S, T, hs, h⟩ => ⟨G, S, T, hs, ?_⟩
  have h : WantS F W G T D (match es F.PG c1 c0 cs S with | .ok .nx S => ess F.PG c1 c0 css S | r => r) := h
  cases q : es F.PG c1 c0 cs S with
  | bad => rw [q] at h; exact h
  | exc x fs S1 => rw [q] at h; exact h
  | ok f S1 =>
    rw [q] at h
    cases f with
    | nx => exact fun σ' H' G' le z => ⟨G', S1, T, z, WantS.mono h le⟩
    | brk => exact h
    | cnt => exact h
    | ret m => exact h
end
end Tk
/- Snd19 -/
set_option Elab.async false
set_option linter.all false
set_option maxRecDepth 100000
set_option maxHeartbeats 4000000
namespace Tk
open PySem PySem.Spec PyProof.Rows L2
section
variable {F : Fx} {I : If} {k : Nat} {W : WX} {X : Cx} {c1 c0 : CallFn} {ce ca cb cc co ck : CE} {ces : CEs} {x a b c o e ex : Expr} {xs args : List Expr} {pos apos p spos : Pos} {G G' : Gh} {H H' : Hp} {σ : L2.St} {S : Sg} {T : List (V × M)} {E : Ends} {st : Stmt}
theorem st_of2 {K : M → Sg → RS} {Z : VK} {v w : V} {n r : M} (hs : Stt F G H σ S ((w, r) :: (v, n) :: T)) (h : WantS F W G T E ((ev F.PG c1 c0 ce S).bind K)) (k : ∀ x H1 G1 m S1, ev F.PG c1 c0 ce S = .ok m S1 → G.le G1 → (pur ce = true → Same H H1) → Stt F G1 H1 σ S1 ((x, m) :: (w, r) :: (v, n) :: T) → WantS F W G1 T E (K m S1) → Z x H1) :
    tev F c1 c0 W ce σ H Z := by
  have o1 : Out F W G σ ((w, r) :: (v, n) :: T) (ev F.PG c1 c0 ce S) := by
    cases q : ev F.PG c1 c0 ce S with
    | ok m S1 => trivial
    | exc x fs S1 => rw [q] at h; exact Xk.drop (Xk.drop (h σ))
    | bad => rw [q] at h; exact h.elim
  refine tev_mono (tev_of hs o1) fun x H1 ⟨G1, m, S1, e1, l1, s1, h1⟩ => ?_
  rw [e1] at h
  exact k x H1 G1 m S1 e1 l1 s1 h1 (WantS.mono (r := K m S1) h l1)
def kSetf (P : Prog) (f : Nat) (m : M) (d : M) (S : Sg) : RS := match setField P S.ob d f m with
  | some ob => .ok .nx ⟨S.sl, ob⟩
  | none => .bad
theorem setField_of {P : Prog} {ob ob' : List Ob} {d m : M} {f : Nat} (h : setField P ob d f m = some ob') : ∃ i o cl, d = .val (.obj i) ∧ ob[i]? = some o ∧ P.cl o.cls = some cl ∧ f ∈ cl.fl ∧ o.fs.length < 1000 ∧ ob' = ob.set i ⟨o.cls, putF f m o.fs⟩ := by
  cases d with
  | lst _ => cases h
  | dct _ => cases h
  | val d =>
    cases d <;> first | (cases h; done) | skip
    rename_i i
    obtain ⟨o, e1, h⟩ := Option.bind_eq_some_iff.mp (show ((ob[i]?).bind fun o => (P.cl o.cls).bind fun c => if c.fl.elem f && decide (o.fs.length < 1000) then some (ob.set i ⟨o.cls, putF f m o.fs⟩) else none) = some ob' from h)
    obtain ⟨cl, e2, h⟩ := Option.bind_eq_some_iff.mp h
    split at h
    · rename_i hc
      rw [Bool.and_eq_true] at hc
      cases h
      exact ⟨i, o, cl, rfl, e1, e2, List.elem_iff.mp hc.1, of_decide_eq_true hc.2, rfl⟩
    · cases h
theorem ss_setf {f : Nat} {y : Str} (CF : ClF F) (hK : X.K = F.K) (hy : y = F.c.nm f) (ho : PE X o (tev F c1 c0 W co)) (hv : PE X ex (tev F c1 c0 W ce)) (hs : swapsWith ex (some (.Attribute o y p)) pos.line X.env = pure false) :
    PS X (.Assign [.Attribute o y p] ex pos) (tst F c1 c0 W (.setf co f ce)) := by
  subst hy
  refine PS.imp (ps_fld ho hv hs) fun D σ H ⟨G, S, T, hs, h⟩ => ?_
  refine st_of (K := fun m S => (ev F.PG c1 c0 co S).bind (kSetf F.PG f m)) hs h fun y H1 G1 m S1 e1 l1 s1 h1 h => ?_
  refine st_of' (K := kSetf F.PG f m) h1 h fun x H2 G2 d S2 e2 l2 s2 h2 h => ?_
  unfold kSetf at h
  cases q : setField F.PG S2.ob d f m with
  | none => rw [q] at h; exact h.elim
  | some ob =>
    rw [q] at h
    obtain ⟨i, o, cl, rfl, e3, e4, e5, e6, rfl⟩ := setField_of q
    obtain ⟨g, r⟩ := h2.head
    obtain ⟨L, sl, rp⟩ := h2.tail
    cases r with
    | val r =>
      cases r with
      | @obj _ a dx q0 =>
        obtain ⟨a', dx', fs, g', q1, q2, q3, q4⟩ := rp.ob_at e3
        rw [q0] at q1; cases q1
        have na := CF.na o.cls cl f e4 e5
        rw [hK]
        refine ⟨a, _, dx, fs, rfl, q2, q3.cl, na, by rw [q4.len]; exact e6, ?_⟩
        exact WantS.nxt h ⟨L, sl, (Rp.outT.mp rp).setF F.inj e3 q0 q2 na⟩
theorem pm2 {α : Type} {l1 l2 T : List α} {a b : α} : ((l1 ++ a :: l2) ++ b :: T).Perm (a :: b :: ((l1 ++ l2) ++ T)) := by
  refine List.perm_middle.trans ?_
  refine (List.Perm.cons b ?_).trans (List.Perm.swap a b _)
  rw [List.append_assoc, List.append_assoc]
  exact List.perm_middle
def kSeti2 (i : Nat) (m : M) (k : M) (S : Sg) : RS := match S.sl[i]?.join with
  | some (.dct kvs) => if k.fz.isKey && decide (kvs.length < line) then .ok .nx ⟨setSl S.sl i (.dct (putK k.fz m kvs)), S.ob⟩ else .bad
  | _ => .bad
def kSeti (P : Prog) (c1 c0 : CallFn) (i : Nat) (ck : CE) (m : M) (S : Sg) : RS := match S.sl[i]?.join with
  | some (.dct _) => (ev P c1 c0 ck S).bind (kSeti2 i m)
  | _ => .bad
theorem ss_seti {i : Nat} (C : Ck F I k W X) (ho : PE X o (tVar i)) (hi : PE X e (tev F c1 c0 W ck)) (hv : PE X ex (tev F c1 c0 W ce)) (hs : swapsWith ex (some (.Subscript o e p)) pos.line X.env = pure false) :
    PS X (.Assign [.Subscript o e p] ex pos) (tst F c1 c0 W (.seti i ck ce)) := by
  refine PS.imp (ps_dput (hu_of C.room) ho hi hv hs) fun D σ H ⟨G, S, T, hs, h⟩ => ?_
  refine st_of (K := kSeti F.PG c1 c0 i ck) hs h fun v H1 G1 m S1 e1 l1 s1 h1 h => ?_
  unfold kSeti at h
  cases q : S1.sl[i]?.join with
  | none => rw [q] at h; exact h.elim
  | some n =>
    rw [q] at h
    cases n with
    | val _ => exact h.elim
    | lst _ => exact h.elim
    | dct kvs1 =>
      obtain ⟨w, f1, ew, rw1⟩ := h1.slot q
      refine ⟨w, ew, st_of' (K := kSeti2 i m) h1 h fun y H2 G2 kd S2 e2 l2 s2 h2 h => ?_⟩
      unfold kSeti2 at h
      cases q2 : S2.sl[i]?.join with
      | none => rw [q2] at h; exact h.elim
      | some n =>
        rw [q2] at h
        cases n with
        | val _ => exact h.elim
        | lst _ => exact h.elim
        | dct kvs =>
          have h : WantS F W G2 T D (if (kd.fz.isKey && decide (kvs.length < line)) = true then .ok .nx ⟨setSl S2.sl i (.dct (putK kd.fz m kvs)), S2.ob⟩ else .bad) := h
          by_cases hc : (kd.fz.isKey && decide (kvs.length < line)) = true
          · rw [if_pos hc] at h
            rw [Bool.and_eq_true] at hc
            obtain ⟨ky, ek⟩ := isKey_key hc.1
            obtain ⟨fy, ry⟩ := h2.head
            have ey := key_valM ry ek
            obtain ⟨L, sl, rp⟩ := h2.tail
            obtain ⟨w2, l1', l2', ew2, el, hset, _⟩ := sl.get q2
            rw [ew] at ew2
            cases ew2
            subst el
            have rp2 := rp.perm pm2
            obtain ⟨fw, rw2⟩ := rp2.head
            cases rw2 with
            | @dct a us _ fp q3 q4 q5 =>
              refine ⟨a, upd H2 a (.dK (L2.putK us ky v)), rfl, ?_, ?_⟩
              · rw [ey]
                exact DPut.k q3 (by rw [← q5.len]; exact of_decide_eq_true hc.2)
              · rw [ek] at h
                exact WantS.nxt h ⟨_, hset _, Rp.out.mpr (rp2.put (k := ky) q3)⟩
          · rw [if_neg hc] at h; exact h.elim
def kSetfi2 (P : Prog) (f : Nat) (m d : M) (k : M) (S : Sg) : RS := match fieldOf S.ob d f with
  | some (.dct kvs) => if k.fz.isKey && decide (kvs.length < line) then (match setField P S.ob d f (.dct (putK k.fz m kvs)) with
    | some ob => .ok .nx ⟨S.sl, ob⟩
    | none => .bad) else .bad
  | _ => .bad
def kSetfi (P : Prog) (c1 c0 : CallFn) (f : Nat) (ck : CE) (m d : M) (S : Sg) : RS := match fieldOf S.ob d f with
  | some (.dct _) => (ev P c1 c0 ck S).bind (kSetfi2 P f m d)
  | _ => .bad
theorem ss_setfi {f : Nat} {y : Str} {p' : Pos} (C : Ck F I k W X) (hy : y = F.c.nm f) (hn : nba o = true) (ho : PE X o (tev F c1 c0 W co)) (hi : PE X e (tev F c1 c0 W ck)) (hpk : pur ck = true) (hv : PE X ex (tev F c1 c0 W ce)) (hs : swapsWith ex (some (.Subscript (.Attribute o y p') e p)) pos.line X.env = pure false) :
    PS X (.Assign [.Subscript (.Attribute o y p') e p] ex pos) (tst F c1 c0 W (.setfi co f ck ce)) := by
  subst hy
  refine PS.imp (ps_dput (hu_of C.room) (pe_fld (pos := p') ho (nba_ok hn _ _ _)) hi hv hs) fun D σ H ⟨G, S, T, hs, h⟩ => ?_
  refine st_of (K := fun m S => (ev F.PG c1 c0 co S).bind (kSetfi F.PG c1 c0 f ck m)) hs h fun v H1 G1 m S1 e1 l1 s1 h1 h => ?_
  refine st_of' (K := kSetfi F.PG c1 c0 f ck m) h1 h fun x H2 G2 d S2 e2 l2 s2 h2 h => ?_
  unfold kSetfi at h
  cases q : fieldOf S2.ob d f with
  | none => rw [q] at h; exact h.elim
  | some n =>
    rw [q] at h
    cases n with
    | val _ => exact h.elim
    | lst _ => exact h.elim
    | dct kvs1 =>
      obtain ⟨g, r⟩ := h2.head
      obtain ⟨a, A, dx, fs, u, k1, rfl, z1, z2, z3, z4, z5⟩ := field_of h2 r q
      rw [C.K]
      refine ⟨a, A, dx, fs, u, rfl, z1, z2, z3, z4, st_of2 (K := kSetfi2 F.PG f m d) h2 h fun y H3 G3 kd S3 e3 l3 s3 h3 h => ?_⟩
      have sm := s3 hpk
      unfold kSetfi2 at h
      cases q2 : fieldOf S3.ob d f with
      | none => rw [q2] at h; exact h.elim
      | some n =>
        rw [q2] at h
        cases n with
        | val _ => exact h.elim
        | lst _ => exact h.elim
        | dct kvs =>
          have h : WantS F W G3 T D (if (kd.fz.isKey && decide (kvs.length < line)) = true then (match setField F.PG S3.ob d f (.dct (putK kd.fz m kvs)) with | some ob => .ok .nx ⟨S3.sl, ob⟩ | none => .bad) else .bad) := h
          by_cases hc : (kd.fz.isKey && decide (kvs.length < line)) = true
          · rw [if_pos hc] at h
            rw [Bool.and_eq_true] at hc
            obtain ⟨ky, ek⟩ := isKey_key hc.1
            obtain ⟨fy, ry⟩ := h3.head
            have ey := key_valM ry ek
            cases q3 : setField F.PG S3.ob d f (.dct (putK kd.fz m kvs)) with
            | none => rw [q3] at h; exact h.elim
            | some ob =>
              rw [q3] at h
              obtain ⟨i, o', cl, rfl, w1, w2, w3, w4, rfl⟩ := setField_of q3
              have em : getF f o'.fs = some (.dct kvs) := by
                have := (show ((S3.ob[i]?).bind fun o => getF f o.fs) = some (M.dct kvs) from q2)
                rw [w1] at this
                exact this
              obtain ⟨g3, r3⟩ := h3.tail.head
              obtain ⟨L, sl, rp⟩ := h3.tail.tail
              obtain ⟨a2, dx2, fs2, d2, us, t1, t2, t3, t4, t5, t6⟩ := (Rp.outT.mp rp).setFi F.inj (ky := ky) w1 em
              have ea : a2 = a := by
                cases r3 with
                | val r3 =>
                  cases r3 with
                  | obj q0 => rw [q0] at t1; cases t1; rfl
              subst ea
              have e5 := sm a2 _ z1
              rw [t2] at e5
              cases e5
              rw [t3] at z4
              cases z4
              refine ⟨d2, upd H3 d2 (.dK (L2.putK us ky v)), rfl, ?_, ?_⟩
              · rw [ey]
                exact DPut.k t4 (by rw [t5]; exact of_decide_eq_true hc.2)
              · rw [ek] at h
                exact WantS.nxt h ⟨L, sl, t6⟩
          · rw [if_neg hc] at h; exact h.elim
def kApp2 (i : Nat) (m : M) (S : Sg) : RS := match S.sl[i]?.join with
  | some (.lst ms) => if ms.length < line then .ok .nx ⟨setSl S.sl i (.lst (ms ++ [m])), S.ob⟩ else .bad
  | _ => .bad
theorem ss_app {i : Nat} (C : Ck F I k W X) (ho : PE X o (tVar i)) (hv : PE X ex (tev F c1 c0 W ce)) (hn : nba o = true) (h1 : nst ex = true) (hl : (apos.endLine == pos.line) = true) :
    PS X (.Expr (.Call (.Attribute o "append" apos) [ex] [] pos) spos) (tst F c1 c0 W (.app i ce)) := by
  have st := star_cons (es := []) (env := X.env) h1
  have pe := pe_bm PySem.F.plainAttrs_list PySem.F.slot_list_append PySem.F.type_list_append mt_append ho (pa_cons hv pa_nil st) (nba_ok hn _ _ _) (few_ok (X := X) (pos := pos) (es := [ex]) (by rw [List.all_cons, h1]; rfl) (by simp)) hl st rfl
  refine PS.imp (ps_expr (pos := spos) pe rfl) fun D σ H ⟨G, S, T, hs, h⟩ => ?_
  have h : WantS F W G T D (match S.sl[i]?.join with | some (.lst _) => (ev F.PG c1 c0 ce S).bind (kApp2 i) | _ => .bad) := h
  cases q : S.sl[i]?.join with
  | none => rw [q] at h; exact h.elim
  | some n =>
    rw [q] at h
    cases n with
    | val _ => exact h.elim
    | dct _ => exact h.elim
    | lst ms1 =>
      have h : WantS F W G T D ((ev F.PG c1 c0 ce S).bind (kApp2 i)) := h
      obtain ⟨w, f1, ew, rw1⟩ := hs.slot q
      refine ⟨w, ew, ?_, st_of (K := kApp2 i) hs h fun y H2 G2 m S2 e2 l2 s2 h2 h => ?_⟩
      · cases rw1 with
        | @lst a vs _ _ q1 _ => exact .inl ⟨rfl, vs, .inl (.inl q1)⟩
      · unfold kApp2 at h
        cases q2 : S2.sl[i]?.join with
        | none => rw [q2] at h; exact h.elim
        | some n =>
          rw [q2] at h
          cases n with
          | val _ => exact h.elim
          | dct _ => exact h.elim
          | lst ms =>
            have h : WantS F W G2 T D (if ms.length < line then .ok .nx ⟨setSl S2.sl i (.lst (ms ++ [m])), S2.ob⟩ else .bad) := h
            by_cases hc : ms.length < line
            · rw [if_pos hc] at h
              obtain ⟨L, sl, rp⟩ := h2
              obtain ⟨w2, l1', l2', ew2, el, hset, _⟩ := sl.get q2
              rw [ew] at ew2
              cases ew2
              subst el
              have rp2 := rp.perm pm2
              obtain ⟨fw, rw2⟩ := rp2.head
              cases rw2 with
              | @lst a vs _ fp q3 q5 =>
                refine ⟨a, vs, y, rfl, rfl, q3, by rw [q5.len]; exact hc, ?_⟩
                exact WantS.nxt h ⟨_, hset _, Rp.out.mpr (rp2.append q3)⟩
            · rw [if_neg hc] at h; exact h.elim
end
end Tk
/- Snd20 -/
set_option Elab.async false
set_option linter.all false
set_option maxRecDepth 100000
set_option maxHeartbeats 4000000
namespace Tk
open PySem PySem.Spec PyProof.Rows L2
/-- the promise of an exception class's __init__: its fields hold the arguments -/
def spX (F : Fx) (x : Nat) : Sp := fun vs H Q _ => ∃ (a : Addr) (ws : List V) (H1 : Hp), vs = .ref a :: ws ∧ H1 a = none ∧ H = upd H1 a (exo a (F.c.ca x) none) ∧ ws.length = (F.PG.xf x).length ∧
  ∀ (dx : Addr) (H2 : Hp) (xs : List (Str × V)), H1 dx = none → dx ≠ a → H2 a = some (exo a (F.c.ca x) (some dx)) → H2 dx = some (exd dx xs) → (∀ b, b ≠ a → b ≠ dx → H2 b = H1 b) →
    (∀ (i f : Nat) (v : V), (F.PG.xf x)[i]? = some f → ws[i]? = some v → xs.lookup (F.c.nm f) = some v) → Q .non H2
/-- an exception class of the program -/
structure XcF (F : Fx) (x : Nat) : Prop where
  ex : ∃ fI fd ps, OexC F.K (F.c.ca x) ∧ PySem.W.findIn F.K (.ref (F.c.ca x)) "__init__" = some (some (.ref fI)) ∧ PySem.W.typeIn F.K (.ref fI) = some (.type "function") ∧ FnOk F.P F.w F.K F.mg F.base (L2.CX F.P F.w) 1 fI fd ps (spX F x) ∧ Binds F.K fd ps []
section
variable {F : Fx} {I : If} {k : Nat} {W : WX} {X : Cx} {c1 c0 : CallFn} {ce ca cb cc co ck : CE} {ces : CEs} {a b c o e ex : Expr} {es args : List Expr} {pos apos p spos : Pos} {G G' : Gh} {H H' : Hp} {σ : L2.St} {S : Sg} {T : List (V × M)} {E : Ends} {st : Stmt}
theorem ss_rais {x : Nat} {y : Str} (C : Ck F I k W X) (XF : XcF F x) (hg : Gl X y) (hm : X.mg y = some (.ref (F.c.ca x))) (hdb : (y == ("__debug__" : Str)) = false) (ha : PA X (e :: es) (tevs F c1 c0 W ces)) (hst : (e :: es).all nst = true) :
    PS X (.Raise (some (.Call (.Name y p) (e :: es) [] pos)) none spos) (tst F c1 c0 W (.rais x ces)) := by
  obtain ⟨fI, fd, ps, T1, iC, tI, F1, hb⟩ := XF.ex
  rw [List.all_cons, Bool.and_eq_true] at hst
  rw [← C.K] at T1 iC tI hb
  have F1' : FnOk X.prog X.w X.K X.mg X.base (L2.CX X.prog X.w) 1 fI fd ps (spX F x) := by
    rw [C.P, C.w, C.K, C.mg, C.base]
    exact F1
  have mk := pmk_oex (p := p) (pos := pos) T1 iC tI F1' (C.room.mono (by have := C.kpos; omega)) hb .nil passL hg hm ha hdb (star_cons hst.1) (back_any (star_all hst.2))
  refine PS.imp (ps_raise (pos := spos) C.calm C.tk mk) fun D σ H ⟨G, S, T, hs, h⟩ => ?_
  have h : WantS F W G T D ((evs F.PG c1 c0 ces S).bind fun ms S => if (F.PG.sup x x && decide (ms.length = (F.PG.xf x).length) && decide (ms.length ≤ 1000)) = true then .exc x (M.fzs ms) S else .bad) := h
  have o1 : Out F W G σ T (evs F.PG c1 c0 ces S) := by
    cases q : evs F.PG c1 c0 ces S with
    | ok m S1 => trivial
    | exc x fs S1 => rw [q] at h; exact h σ
    | bad => rw [q] at h; exact h.elim
  refine tevs_mono (tevs_of hs o1) fun vs H1 ⟨G1, ms, S1, e1, l1, s1, ln, h1⟩ => ?_
  rw [e1] at h
  have h : WantS F W G T D (if (F.PG.sup x x && decide (ms.length = (F.PG.xf x).length) && decide (ms.length ≤ 1000)) = true then .exc x (M.fzs ms) S1 else .bad) := h
  by_cases hc : (F.PG.sup x x && decide (ms.length = (F.PG.xf x).length) && decide (ms.length ≤ 1000)) = true
  · rw [if_pos hc] at h
    simp only [Bool.and_eq_true, decide_eq_true_eq] at hc
    obtain ⟨⟨hx, hl⟩, h1000⟩ := hc
    obtain ⟨L, sl, rp⟩ := h1
    have rp' : Rp F.P F.w F.K F.c G1 H1 (vs.zip ms ++ (L ++ T)) S1.ob := rp.perm (by
      rw [← List.append_assoc, ← List.append_assoc]
      exact List.Perm.append_right _ List.perm_append_comm)
    obtain ⟨G2, l2, r2, rd⟩ := rp'.freezes ln
    refine ⟨by rw [ln]; exact h1000, fun a ha => ?_⟩
    rw [List.append_nil]
    refine ⟨a, vs, H1, rfl, ha, rfl, by rw [ln]; exact hl, fun dx H2 xs hdx ne q1 q2 q3 q4 => ⟨rfl, dx, xs, q1, q2, hdx, ?_⟩⟩
    have keep : ∀ b, H1 b ≠ none → (upd (del H2 a) dx (.xd xs)) b = H1 b := fun b hb => by
      have hba : b ≠ a := fun e => hb (by rw [e]; exact ha)
      have hbd : b ≠ dx := fun e => hb (by rw [e]; exact hdx)
      rw [upd_ne hbd, del_ne hba]
      exact q3 b hba hbd
    refine h σ (.ref (F.c.ca x)) (some dx) _ G2 (Gh.le_trans l1 l2) ⟨L, sl, r2.grow keep⟩ ⟨rfl, hx, .inr ⟨dx, xs, rfl, upd_same, ?_, fun i f dv e1 e2 => ?_⟩⟩
    · rw [← rd.len, ln]; exact hl
    · obtain ⟨v, w1, w2⟩ := repds_get rd e2
      exact ⟨v, q4 i f v e1 w1, w2.mono (Gh.le_refl G2) fun b z => keep b (r2.fh b z)⟩
  · rw [if_neg hc] at h; exact h.elim
end
end Tk
/- Snd21 -/
set_option Elab.async false
set_option linter.all false
set_option maxRecDepth 100000
set_option maxHeartbeats 4000000
namespace Tk
open PySem PySem.Spec PyProof.Rows L2
/-! ### isinstance of a caught exception that has its dict -/
def rIsED (K : PySem.W.Frag) (D a dd : Addr) : List V → Hp → VK → Prop := fun xs H Q => ∃ (c : V) (cv : Value) (b : Bool) (fs : List (Str × V)), xs = [.ref a, c] ∧ (∀ u, RelV c u → u = cv) ∧ PySem.W.kitOne K (.ref D) cv = some b ∧ H dd = some (.xd fs) ∧ Q (.bl b) H
theorem call_isED {X : Cx} {a D dd : Addr} {oe : Obj} {pn : List (Addr × Obj)} (C : ExcC X.K D) (hz : Zc (.ref D) (some dd) oe) (hf : ∃ vs, oe.data = .fields vs) : CallR (X.suite a ((a, oe) :: pn)) (.builtin "isinstance") (rIsED X.K D a dd) := by
  intro pins s σ H xs us Q I r h
  obtain ⟨c, cv, b, fs, rfl, hcv, e, ed, q⟩ := h
  cases r with
  | cons rx rr =>
    cases rr with
    | cons rt rr =>
      cases rr
      cases rx
      have ec := hcv _ rt
      subst ec
      obtain ⟨hget, _⟩ := I.pin (a, oe) (List.mem_append.mpr (.inl List.mem_cons_self))
      obtain ⟨vs, hv⟩ := hf
      have hx : ObjOk X.prog X.w H s.heap dd (.xd fs) := I.hok dd _ ed
      obtain ⟨mA, hns, hr⟩ := hx
      obtain ⟨od, ho, hl⟩ := lookIn_ns hns
      have J : PySem.W.InstAt s.heap a oe D (some od) := ⟨hget, hz.1, by unfold PySem.W.notCls; rw [hv] <;> rfl, by rw [hz.2]; exact ho⟩
      have hcl : (PySem.W.clsIn X.K D).isSome = true := by
        obtain ⟨cd, hc, _⟩ := PySem.W.any_some C.hd
        rw [hc]; rfl
      exact PySem.W.kia_one (PySem.W.kitx_exc hcl C.hg C.hk C.hs C.ha C.hn C.ht C.hm) I.kIn J e (fun z => nomatch z) fun tk => ⟨.bl b, H, I.kept (t' := tk) fun _ _ z => z, rfl, q⟩
/-- what is known of the exception classes -/
structure XcT (F : Fx) : Prop where
  exm : ∀ x c, F.PG.sup x x = true → F.PG.sup c c = true → PySem.W.exmOne F.K (.ref (F.c.ca x)) (.ref (F.c.ca c)) = some (F.PG.sup x c)
  kit : ∀ x c, F.PG.sup x x = true → F.PG.sup c c = true → PySem.W.kitOne F.K (.ref (F.c.ca x)) (.ref (F.c.ca c)) = some (F.PG.sup x c)
  exc : ∀ x, F.PG.sup x x = true → ExcC F.K (F.c.ca x)
  xfc : ∀ x, F.PG.sup x x = true → XfC F.K (F.c.ca x)
  fno : ∀ x f, F.PG.sup x x = true → f ∈ F.PG.xf x → PySem.W.findIn F.K (.ref (F.c.ca x)) (F.c.nm f) = some none
section
variable {F : Fx} {I : If} {k : Nat} {W : WX} {X : Cx} {c1 c0 : CallFn} {ce ca cb cc co ck : CE} {ces : CEs} {a' b c o e ex : Expr} {es args : List Expr} {pos apos p spos : Pos} {G G' : Gh} {H H' : Hp} {σ : L2.St} {S : Sg} {T : List (V × M)} {E : Ends} {st : Stmt} {a : Addr} {oe : Obj} {cls : Value} {d : Option Addr} {pn : List (Addr × Obj)} {x y z : XE} {i : Option Nat} {q1 q2 q3 : Expr}
theorem XR.same {n : Nat} {fs : List D} (r : XR F G H cls d n fs) (le : G.le G') (s : Same H H') (fh : ∀ a, G.fz a → H a ≠ none) : XR F G' H' cls d n fs := by
  obtain ⟨h1, h2, h3⟩ := r
  refine ⟨h1, h2, h3.imp id fun ⟨dd, xs, e1, e2, e3, e4⟩ => ⟨dd, xs, e1, s dd _ e2, e3, fun i f dv w1 w2 => ?_⟩⟩
  obtain ⟨v, t1, t2⟩ := e4 i f dv w1 w2
  exact ⟨v, t1, t2.mono le fun a z => same_ne s a (fh a z)⟩
/-- the slot of the caught exception -/
def XSl (i : Option Nat) (a : Addr) (σ : L2.St) : Prop := ∀ j, i = some j → σ[j]? = some (some (.ref a))
def txe (F : Fx) (i : Option Nat) (a : Addr) (cls : Value) (d : Option Addr) (x : XE) : TE := fun σ H Q => ∃ G S T n fs dv, Stt F G H σ S T ∧ XSl i a σ ∧ XR F G H cls d n fs ∧ exE F.PG n fs x = some dv ∧ ∀ V H' G', G.le G' → Same H H' → Stt F G' H' σ S ((V, .val dv) :: T) → Q V H'
theorem xe_cst {dv : D} {v : V} (he : PE X e (tC v)) (r : ∀ G H, RD F G H v dv) : PE X e (txe F i a cls d (.cst dv)) :=
  PE.imp he fun σ H Q ⟨G, S, T, n, fs, dv', hs, sl, xr, e, h⟩ => by
    cases e
    exact h v H G (Gh.le_refl G) Same.rfl' (hs.val (r G H))
/-- one part, then what follows -/
theorem txe_of {Q : VK} (hs : Stt F G H σ S T) (sl : XSl i a σ) {n : Nat} {fs : List D} (xr : XR F G H cls d n fs) {dv : D} (e : exE F.PG n fs x = some dv) (k : ∀ V H1 G1, G.le G1 → Same H H1 → Stt F G1 H1 σ S ((V, .val dv) :: T) → XR F G1 H1 cls d n fs → Q V H1) : txe F i a cls d x σ H Q :=
  ⟨G, S, T, n, fs, dv, hs, sl, xr, e, fun V H1 G1 le s z => k V H1 G1 le s z (xr.same le s hs.fh)⟩
theorem xe_not (he : PE X e (txe F i a cls d x)) : PE X (.UnaryOp .Not e pos) (txe F i a cls d (.not x)) := by
  refine PE.imp (pe_not he) fun σ H Q ⟨G, S, T, n, fs, dv, hs, sl, xr, e, h⟩ => ?_
  have e : (match exE F.PG n fs x with | some (.bl b) => some (.bl (!b)) | _ => none) = some dv := e
  cases q : exE F.PG n fs x with
  | none => rw [q] at e; cases e
  | some d1 =>
    rw [q] at e
    cases d1 with
    | bl b =>
      cases e
      refine txe_of hs sl xr q fun V H1 G1 le s z _ => ?_
      obtain ⟨f, r⟩ := z.head
      obtain rfl := rm_bl r
      exact ⟨b, rfl, h _ H1 G1 le s (z.tail.val (.bl (!b)))⟩
    | _ => cases e
theorem xe_and {b' : Expr} (he : PE X e (txe F i a cls d x)) (hb : PE X b' (txe F i a cls d y)) : PE X (.BoolOp .And [e, b'] pos) (txe F i a cls d (.and x y)) := by
  refine PE.imp (pe_and he (pe_one hb)) fun σ H Q ⟨G, S, T, n, fs, dv, hs, sl, xr, e, h⟩ => ?_
  have e : (match exE F.PG n fs x with
    | some (.bl true) => (match exE F.PG n fs y with | some (.bl x) => some (.bl x) | _ => none)
    | some (.bl false) => some (.bl false)
    | _ => none) = some dv := e
  cases q : exE F.PG n fs x with
  | none => rw [q] at e; cases e
  | some d1 =>
    rw [q] at e
    cases d1 with
    | bl b =>
      refine txe_of hs sl xr q fun V H1 G1 le s z xr1 => ?_
      obtain ⟨f, r⟩ := z.head
      obtain rfl := rm_bl r
      refine ⟨b, rfl, ?_⟩
      cases b with
      | true =>
        rw [if_pos rfl]
        have e : (match exE F.PG n fs y with | some (.bl x) => some (Tk.D.bl x) | _ => none) = some dv := e
        cases q2 : exE F.PG n fs y with
        | none => rw [q2] at e; cases e
        | some d2 =>
          rw [q2] at e
          cases d2 with
          | bl b2 =>
            cases e
            refine txe_of z.tail sl xr1 q2 fun V2 H2 G2 le2 s2 z2 _ => ?_
            exact h V2 H2 G2 (Gh.le_trans le le2) (Same.tr s s2) z2
          | _ => cases e
      | false =>
        rw [if_neg (by decide)]
        cases e
        exact h _ H1 G1 le s (z.tail.val (.bl false))
    | _ => cases e
/-- a tuple of parts -/
theorem xe_tup1 {k' : Nat} (h1 : PE X q1 (txe F i a cls d x)) (s1 : nst q1 = true) : PE X (.Tuple [q1] k' pos) (txe F i a cls d (.tup1 x)) := by
  refine PE.imp (pe_tup (pa_cons h1 pa_nil (star_cons s1))) fun σ H Q ⟨G, S, T, n, fs, dv, hs, sl, xr, e, h⟩ => ?_
  have e : (match exE F.PG n fs x with | some x => some (Tk.D.tup [x]) | _ => none) = some dv := e
  cases qx : exE F.PG n fs x with
  | none => rw [qx] at e; cases e
  | some dx =>
    rw [qx] at e; cases e
    refine txe_of hs sl xr qx fun V H1 G1 le s z _ => ⟨(by show 1 ≤ sizeLine; decide), fun pp hp => ?_⟩
    obtain ⟨L, sls, rp⟩ := z
    obtain ⟨f, r⟩ := (Rp.outT.mp rp).head
    have rd : RD F G1 H1 V dx := by cases r with | val r => exact r
    exact h _ _ (G1.more pp) (Gh.le_trans le (G1.more_le pp)) (Same.tr s (Same.upd hp)) ⟨L, sls, Rp.outT.mpr ((Rp.outT.mp rp).tail.new_tup (.cons rd .nil) hp)⟩
theorem xe_tup2 {k' : Nat} (h1 : PE X q1 (txe F i a cls d x)) (h2 : PE X q2 (txe F i a cls d y)) (s1 : nst q1 = true) (s2 : nst q2 = true) : PE X (.Tuple [q1, q2] k' pos) (txe F i a cls d (.tup2 x y)) := by
  refine PE.imp (pe_tup (pa_cons h1 (pa_cons h2 pa_nil (star_cons s2)) (star_cons s1))) fun σ H Q ⟨G, S, T, n, fs, dv, hs, sl, xr, e, h⟩ => ?_
  have e : (match exE F.PG n fs x, exE F.PG n fs y with | some x, some y => some (Tk.D.tup [x, y]) | _, _ => none) = some dv := e
  cases qx : exE F.PG n fs x with
  | none => rw [qx] at e; cases e
  | some dx =>
    cases qy : exE F.PG n fs y with
    | none => rw [qx, qy] at e; cases e
    | some dy =>
      rw [qx, qy] at e; cases e
      refine txe_of hs sl xr qx fun V H1 G1 le s z xr1 => txe_of z sl xr1 qy fun V2 H2 G2 le2 s2 z2 _ => ⟨(by show 2 ≤ sizeLine; decide), fun pp hp => ?_⟩
      obtain ⟨f1, r1⟩ := z2.head
      obtain ⟨f2, r2⟩ := z2.tail.head
      obtain ⟨L, sls, rp⟩ := z2.tail.tail
      have rd1 : RD F G2 H2 V2 dy := by cases r1 with | val r => exact r
      have rd2 : RD F G2 H2 V dx := by cases r2 with | val r => exact r
      exact h _ _ (G2.more pp) (Gh.le_trans (Gh.le_trans le le2) (G2.more_le pp)) (Same.tr (Same.tr s s2) (Same.upd hp)) ⟨L, sls, Rp.outT.mpr (rp.new_tup (.cons rd2 (.cons rd1 .nil)) hp)⟩
theorem xe_tup3 {k' : Nat} (h1 : PE X q1 (txe F i a cls d x)) (h2 : PE X q2 (txe F i a cls d y)) (h3 : PE X q3 (txe F i a cls d z)) (s1 : nst q1 = true) (s2 : nst q2 = true) (s3 : nst q3 = true) : PE X (.Tuple [q1, q2, q3] k' pos) (txe F i a cls d (.tup3 x y z)) := by
  refine PE.imp (pe_tup (pa_cons h1 (pa_cons h2 (pa_cons h3 pa_nil (star_cons s3)) (star_cons s2)) (star_cons s1))) fun σ H Q ⟨G, S, T, n, fs, dv, hs, sl, xr, e, h⟩ => ?_
  have e : (match exE F.PG n fs x, exE F.PG n fs y, exE F.PG n fs z with | some x, some y, some z => some (Tk.D.tup [x, y, z]) | _, _, _ => none) = some dv := e
  cases qx : exE F.PG n fs x with
  | none => rw [qx] at e; cases e
  | some dx =>
    cases qy : exE F.PG n fs y with
    | none => rw [qx, qy] at e; cases e
    | some dy =>
      cases qz : exE F.PG n fs z with
      | none => rw [qx, qy, qz] at e; cases e
      | some dz =>
        rw [qx, qy, qz] at e; cases e
        refine txe_of hs sl xr qx fun V H1 G1 le s z1 xr1 => txe_of z1 sl xr1 qy fun V2 H2 G2 le2 s2 z2 xr2 => txe_of z2 sl xr2 qz fun V3 H3 G3 le3 s3 z3 _ => ⟨(by show 3 ≤ sizeLine; decide), fun pp hp => ?_⟩
        obtain ⟨f1, r1⟩ := z3.head
        obtain ⟨f2, r2⟩ := z3.tail.head
        obtain ⟨f3, r3⟩ := z3.tail.tail.head
        obtain ⟨L, sls, rp⟩ := z3.tail.tail.tail
        have rd1 : RD F G3 H3 V3 dz := by cases r1 with | val r => exact r
        have rd2 : RD F G3 H3 V2 dy := by cases r2 with | val r => exact r
        have rd3 : RD F G3 H3 V dx := by cases r3 with | val r => exact r
        exact h _ _ (G3.more pp) (Gh.le_trans (Gh.le_trans (Gh.le_trans le le2) le3) (G3.more_le pp)) (Same.tr (Same.tr (Same.tr s s2) s3) (Same.upd hp)) ⟨L, sls, Rp.outT.mpr (rp.new_tup (.cons rd3 (.cons rd2 (.cons rd1 .nil))) hp)⟩
theorem xfield_at {f : Nat} : ∀ {gs : List Nat} {ds : List D} {dv : D}, xfield f gs ds = some dv → ∃ j : Nat, gs[j]? = some f ∧ ds[j]? = some dv
  | [], _, _, h => by cases h
  | _ :: _, [], _, h => by cases h
  | g :: gs, d :: ds, dv, h => by
    unfold xfield at h
    by_cases e : g = f
    · rw [if_pos e] at h; cases h
      exact ⟨0, by rw [e]; rfl, rfl⟩
    · rw [if_neg e] at h
      obtain ⟨j, h1, h2⟩ := xfield_at h
      exact ⟨j + 1, h1, h2⟩
/-- e.f -/
theorem xe_exf {j f : Nat} (XT : XcT F) (hK : X.K = F.K) (hz : Zc cls d oe) (hf : ∃ vs, oe.data = .fields vs) (he : PE (X.suite a ((a, oe) :: pn)) e (tVar j)) (hn : nba e = true) :
    PE (X.suite a ((a, oe) :: pn)) (.Attribute e (F.c.nm f) pos) (txe F (some j) a cls d (.exf f)) := by
  refine ⟨fun pins s σ H Q I hw => ?_⟩
  obtain ⟨G, S, T, n, fs, dv, hs, sl, xr, e1, h⟩ := hw
  obtain ⟨rfl, hx, hxr⟩ := xr
  obtain ⟨j', w1, w2⟩ := xfield_at (show xfield f (F.PG.xf n) fs = some dv from e1)
  rcases hxr with ⟨rfl, _, _⟩ | ⟨dd, xs, rfl, t2, t3, t4⟩
  · cases w2
  obtain ⟨v, t5, t6⟩ := t4 j' f dv w1 w2
  have pe := pe_xf (pos := pos) (n := F.c.nm f) (hK ▸ XT.xfc n hx) (hK ▸ XT.fno n f hx (List.mem_of_getElem? w1)) hz hf he (nba_ok hn _ _ _)
  exact pe.run pins s σ H Q I ⟨.ref a, sl j rfl, rfl, rfl, dd, xs, v, rfl, t2, t5, h v H G (Gh.le_refl G) Same.rfl' (hs.val t6)⟩
/-- isinstance(e, c) -/
theorem xe_exi {j n' : Nat} (XT : XcT F) (hK : X.K = F.K) (hz : Zc cls d oe) (hf : ∃ vs, oe.data = .fields vs) (he : PE (X.suite a ((a, oe) :: pn)) e (tVar j)) (hc : F.PG.sup n' n' = true) (hb : PE (X.suite a ((a, oe) :: pn)) b (tC (.ref (F.c.ca n'))))
    (hg : Gl X "isinstance") (hm : X.mg "isinstance" = none) (s1 : nst e = true) (s2 : nst b = true) :
    PE (X.suite a ((a, oe) :: pn)) (.Call (.Name "isinstance" p) [e, b] [] pos) (txe F (some j) a cls d (.exi n')) := by
  refine ⟨fun pins s σ H Q I hw => ?_⟩
  obtain ⟨G, S, T, n, fs, dv, hs, sl, xr, e1, h⟩ := hw
  obtain ⟨rfl, hx, hxr⟩ := xr
  cases (show some (Tk.D.bl (F.PG.sup n n')) = some dv from e1)
  have pl := back_any (pos := pos) (star_all (env := X.env) (es := [b]) (by rw [List.all_cons, s2]; rfl))
  have ha := pa_cons he (pa_cons hb pa_nil (star_cons (es := []) s2)) (star_cons (es := [b]) s1)
  have ce := hK ▸ XT.exc n hx
  have kt : PySem.W.kitOne X.K (.ref (F.c.ca n)) (.ref (F.c.ca n')) = some (F.PG.sup n n') := hK ▸ XT.kit n n' hx hc
  rcases hxr with ⟨_, _, rfl⟩ | ⟨dd, xs, rfl, t2, _⟩
  · have pe := pe_callB (X := X.suite a ((a, oe) :: pn)) (p := p) (pos := pos) (call_isE (pn := pn) ce hz hf) hg hm (by decide +kernel) ha (by decide) (by decide) (star_cons (es := [b]) s1) pl
    exact pe.run pins s σ H Q I ⟨.ref a, sl j rfl, .ref (F.c.ca n'), _, _, rfl, (fun u r => r), kt, h _ H G (Gh.le_refl G) Same.rfl' (hs.val (.bl _))⟩
  · have pe := pe_callB (X := X.suite a ((a, oe) :: pn)) (p := p) (pos := pos) (call_isED (pn := pn) ce hz hf) hg hm (by decide +kernel) ha (by decide) (by decide) (star_cons (es := [b]) s1) pl
    exact pe.run pins s σ H Q I ⟨.ref a, sl j rfl, .ref (F.c.ca n'), _, _, xs, rfl, (fun u r => r), kt, t2, h _ H G (Gh.le_refl G) Same.rfl' (hs.val (.bl _))⟩
end
end Tk
/- Snd22 -/
set_option Elab.async false
set_option linter.all false
set_option maxRecDepth 100000
set_option maxHeartbeats 4000000
namespace Tk
open PySem PySem.Spec PyProof.Rows L2
section
variable {F : Fx} {I : If} {k : Nat} {W : WX} {X : Cx} {c1 c0 : CallFn} {ce ca cc co ck : CE} {ces : CEs} {a' b o e ex : Expr} {es args : List Expr} {pos apos p spos : Pos} {G G' : Gh} {H H' : Hp} {σ : L2.St} {S : Sg} {T : List (V × M)} {E : Ends} {st : Stmt} {a : Addr} {oe : Obj} {cls : Value} {d : Option Addr} {pn : List (Addr × Obj)} {x y z : XE} {i : Option Nat} {q1 q2 q3 : Expr}
def txt (F : Fx) (i : Option Nat) (a : Addr) (cls : Value) (d : Option Addr) (x : XE) : TT := fun σ H Q => ∃ G S T n fs v, Stt F G H σ S T ∧ XSl i a σ ∧ XR F G H cls d n fs ∧ exE F.PG n fs x = some (.bl v) ∧ ∀ H' G', G.le G' → Same H H' → Stt F G' H' σ S T → Q v H'
theorem xt_val (he : PE X e (txe F i a cls d x)) (hp : plT e = true) : PT X e (txt F i a cls d x) := by
  refine PT.imp (pt_val he (plT_ok hp X.env)) fun σ H Q ⟨G, S, T, n, fs, v, hs, sl, xr, e, h⟩ => ?_
  refine txe_of hs sl xr e fun V H1 G1 le s z _ => ?_
  obtain ⟨f, r⟩ := z.head
  exact ⟨v, rm_bl r, h H1 G1 le s z.tail⟩
theorem xt_not (he : PT X e (txt F i a cls d x)) : PT X (.UnaryOp .Not e pos) (txt F i a cls d (.not x)) := by
  refine PT.imp (pt_not he) fun σ H Q ⟨G, S, T, n, fs, v, hs, sl, xr, e, h⟩ => ?_
  have e : (match exE F.PG n fs x with | some (.bl b) => some (.bl (!b)) | _ => none) = some (Tk.D.bl v) := e
  cases q : exE F.PG n fs x with
  | none => rw [q] at e; cases e
  | some d1 =>
    rw [q] at e
    cases d1 with
    | bl b => cases e; exact ⟨G, S, T, n, fs, b, hs, sl, xr, q, h⟩
    | _ => cases e
theorem xt_and {b' : Expr} (he : PT X e (txt F i a cls d x)) (hb : PT X b' (txt F i a cls d y)) : PT X (.BoolOp .And [e, b'] pos) (txt F i a cls d (.and x y)) := by
  refine PT.imp (pw_and he (pw_and1 hb)).pt fun σ H Q ⟨G, S, T, n, fs, v, hs, sl, xr, e, h⟩ => ?_
  have e : (match exE F.PG n fs x with
    | some (.bl true) => (match exE F.PG n fs y with | some (.bl x) => some (.bl x) | _ => none)
    | some (.bl false) => some (.bl false)
    | _ => none) = some (Tk.D.bl v) := e
  cases q : exE F.PG n fs x with
  | none => rw [q] at e; cases e
  | some d1 =>
    rw [q] at e
    cases d1 with
    | bl b =>
      refine ⟨G, S, T, n, fs, b, hs, sl, xr, q, fun H1 G1 le s z => ?_⟩
      cases b with
      | true =>
        rw [if_pos rfl]
        have e : (match exE F.PG n fs y with | some (.bl x) => some (Tk.D.bl x) | _ => none) = some (Tk.D.bl v) := e
        cases q2 : exE F.PG n fs y with
        | none => rw [q2] at e; cases e
        | some d2 =>
          rw [q2] at e
          cases d2 with
          | bl b2 =>
            have eb : b2 = v := by cases e; rfl
            subst eb
            exact ⟨G1, S, T, n, fs, b2, z, sl, xr.same le s hs.fh, q2, fun H2 G2 le2 s2 z2 => h H2 G2 (Gh.le_trans le le2) (Same.tr s s2) z2⟩
          | _ => cases e
      | false =>
        rw [if_neg (by decide)]
        cases e
        exact h H1 G1 le s z
    | _ => cases e
/-- an except suite -/
def txs (F : Fx) (i : Option Nat) (a : Addr) (cls : Value) (d : Option Addr) (xs : XS) : TS := fun D σ H => ∃ G S T n fs fl, Stt F G H σ S T ∧ XSl i a σ ∧ XR F G H cls d n fs ∧ exS F.PG n fs xs = some fl ∧ match fl with
  | .nx => ∀ H' G', G.le G' → Stt F G' H' σ S T → D.nx σ H'
  | .ret m => ∀ V H' G', G.le G' → Stt F G' H' σ S ((V, m) :: T) → D.rt V H'
  | _ => False
theorem xs_nil : PSs X [] (txs F i a cls d .pass) := PSs.imp pss_nil fun D σ H ⟨G, S, T, n, fs, fl, hs, sl, xr, e, h⟩ => by
  cases e
  exact h H G (Gh.le_refl G) hs
theorem xs_pass : PSs X [.Pass pos] (txs F i a cls d .pass) := PSs.imp (pss_one ps_pass) fun D σ H ⟨G, S, T, n, fs, fl, hs, sl, xr, e, h⟩ => by
  cases e
  exact h H G (Gh.le_refl G) hs
theorem xs_ret (he : PE X e (txe F i a cls d x)) : PSs X [.Return (some e) pos] (txs F i a cls d (.ret x)) := PSs.imp (pss_one (ps_ret he)) fun D σ H ⟨G, S, T, n, fs, fl, hs, sl, xr, e, h⟩ => by
  have e : (match exE F.PG n fs x with | some d => some (Fl.ret (.val d)) | none => none) = some fl := e
  cases q : exE F.PG n fs x with
  | none => rw [q] at e; cases e
  | some dv =>
    rw [q] at e; cases e
    exact txe_of hs sl xr q fun V H1 G1 le s z _ => h V H1 G1 le z
theorem xs_ifr {r : XS} {sts : List Stmt} {p1 p2 : Pos} (hc : PT X b (txt F i a cls d y)) (he : PE X e (txe F i a cls d x)) (hr : PSs X sts (txs F i a cls d r)) : PSs X (.If b [.Return (some e) p1] [] p2 :: sts) (txs F i a cls d (.ifr y x r)) := by
  refine PSs.imp (pss_cons (ps_if hc (xs_ret (pos := p1) he) pss_nil) hr) fun D σ H ⟨G, S, T, n, fs, fl, hs, sl, xr, e, h⟩ => ?_
  have e : (match exE F.PG n fs y with
    | some (.bl true) => (match exE F.PG n fs x with | some d => some (Fl.ret (.val d)) | none => none)
    | some (.bl false) => exS F.PG n fs r
    | _ => none) = some fl := e
  cases q : exE F.PG n fs y with
  | none => rw [q] at e; cases e
  | some d1 =>
    rw [q] at e
    cases d1 with
    | bl v =>
      refine ⟨G, S, T, n, fs, v, hs, sl, xr, q, fun H1 G1 le s z => ?_⟩
      have xr1 := xr.same le s hs.fh
      cases v with
      | true =>
        show txs F i a cls d (.ret x) _ σ H1
        have e : exS F.PG n fs (.ret x) = some fl := e
        refine ⟨G1, S, T, n, fs, fl, z, sl, xr1, e, ?_⟩
        have e2 : (match exE F.PG n fs x with | some d => some (Fl.ret (.val d)) | none => none) = some fl := e
        cases q2 : exE F.PG n fs x with
        | none => rw [q2] at e2; cases e2
        | some dv =>
          rw [q2] at e2; cases e2
          exact fun V H' G' le' z' => h V H' G' (Gh.le_trans le le') z'
      | false =>
        show txs F i a cls d r D σ H1
        have e : exS F.PG n fs r = some fl := e
        refine ⟨G1, S, T, n, fs, fl, z, sl, xr1, e, ?_⟩
        cases fl with
        | nx => exact fun H' G' le' z' => h H' G' (Gh.le_trans le le') z'
        | ret m => exact fun V H' G' le' z' => h V H' G' (Gh.le_trans le le') z'
        | brk => exact h
        | cnt => exact h
    | _ => cases e
/-! ### try -/
theorem Stt.chg (h : Stt F G H σ S T) (i : Nat) (v : Option V) : Stt F G H (σ.set i v) ⟨S.sl.set i none, S.ob⟩ T := by
  obtain ⟨L, sl, rp⟩ := h
  obtain ⟨l1, old, l2, e, r⟩ := sl.drop i v
  subst e
  exact ⟨_, r, rp.sub⟩
theorem Stt.slen (h : Stt F G H σ S T) : σ.length = S.sl.length := let ⟨_, sl, _⟩ := h; sl.len
theorem WantS.anyW {W' : WX} {D : Ends} {f : Fl} (h : WantS F W G T D (.ok f S)) : WantS F W' G T D (.ok f S) := by
  cases f <;> exact h
theorem ss_try_as {j c : Nat} {n y : Str} {np pos' : Pos} {body suite : List Stmt} {b₀ : Stmt} {cb : CSs} {xs : XS} (C : Ck F I k W X) (XT : XcT F) (hs : X.stack = X.env :: X.outer) (hf : X.env.frame = some X.env.locals) (hi : X.N[j]? = some n) (hln : X.env.kindOf n = some .local) (hc : Names X y (.ref (F.c.ca c))) (hsup : F.PG.sup c c = true)
    (hb : ∀ (W : WX) (pn : List (Addr × Obj)) (xe : Value → Shared → Prop), Takes (X.tr pn xe) W → PassesOwn (model X.prog X.w) X.A X.env xe → PSs (X.tr pn xe) body (tss F c1 c0 W cb))
    (hsu : ∀ (a : Addr) (oe : Obj) (cls : Value) (d : Option Addr) (pn : List (Addr × Obj)), Zc cls d oe → (∃ vs, oe.data = .fields vs) → PSs (X.suite a ((a, oe) :: pn)) (b₀ :: suite) (txs F (some j) a cls d xs)) :
    PS X (.Try body [.ExceptHandler (some (.Name y np)) (some n) (b₀ :: suite) pos'] [] [] pos) (tst F c1 c0 W (.try_ cb c (some j) xs)) := by
  refine PS.imp (ps_try_as hs hf C.nd hi hln hc C.tk hb hsu) fun D σ H ⟨G, S, T, hs, h⟩ => ⟨G, S, T, hs, ?_⟩
  have h : WantS F W G T D (match ess F.PG c1 c0 cb S with
    | .exc c' fs S => if F.PG.sup c' c = true then
        (match exS F.PG c' fs xs with
        | some f => if j < S.sl.length then .ok f ⟨S.sl.set j none, S.ob⟩ else .bad
        | none => .bad)
      else .exc c' fs S
    | r => r) := h
  cases q : ess F.PG c1 c0 cb S with
  | bad => rw [q] at h; exact h
  | ok f S1 => rw [q] at h; exact WantS.anyW h
  | exc c' fs S1 =>
    rw [q] at h
    have h : WantS F W G T D (if F.PG.sup c' c = true then
        (match exS F.PG c' fs xs with
        | some f => if j < S1.sl.length then .ok f ⟨S1.sl.set j none, S1.ob⟩ else .bad
        | none => .bad)
      else .exc c' fs S1) := h
    intro σ' cls d H' G' le st xr
    have ecls := xr.1
    have hx := xr.2.1
    refine ⟨F.PG.sup c' c, by rw [ecls, C.K]; exact XT.exm c' c hx hsup, fun e a ha => ?_, fun e => ?_⟩
    · rw [if_pos e] at h
      cases q2 : exS F.PG c' fs xs with
      | none => rw [q2] at h; exact h.elim
      | some f =>
        rw [q2] at h
        have h : WantS F W G T D (if j < S1.sl.length then .ok f ⟨S1.sl.set j none, S1.ob⟩ else .bad) := h
        by_cases hj : j < S1.sl.length
        · rw [if_pos hj] at h
          refine ⟨G', ⟨S1.sl.set j none, S1.ob⟩, T, c', fs, f, st.chg j _, ?_, xr, q2, ?_⟩
          · intro j' ej
            cases ej
            rw [List.getElem?_set_self (by rw [st.slen]; exact hj)]
          · cases f with
            | nx =>
              intro H2 G2 le2 z2
              have z3 := z2.chg j none
              have z4 : Stt F G2 H2 ((σ'.set j (some (.ref a))).set j none) ⟨S1.sl.set j none, S1.ob⟩ T := by
                have e2 : (S1.sl.set j none).set j none = S1.sl.set j none := List.set_set ..
                have z3 : Stt F G2 H2 ((σ'.set j (some (.ref a))).set j none) ⟨(S1.sl.set j none).set j none, S1.ob⟩ T := z3
                rw [e2] at z3
                exact z3
              exact h _ H2 G2 (Gh.le_trans le le2) z4
            | ret m => exact fun V H2 G2 le2 z2 => h V _ H2 G2 (Gh.le_trans le le2) z2
            | brk =>
              have gen : ∀ (r : XS), exS F.PG c' fs r ≠ some .brk := by
                intro r
                induction r with
                | pass => intro z; cases z
                | ret e => intro z; unfold exS at z; split at z <;> cases z
                | ifr t e r ih =>
                  intro z
                  unfold exS at z
                  split at z
                  · split at z <;> cases z
                  · exact ih z
                  · cases z
              exact absurd q2 (gen xs)
            | cnt =>
              have gen : ∀ (r : XS), exS F.PG c' fs r ≠ some .cnt := by
                intro r
                induction r with
                | pass => intro z; cases z
                | ret e => intro z; unfold exS at z; split at z <;> cases z
                | ifr t e r ih =>
                  intro z
                  unfold exS at z
                  split at z
                  · split at z <;> cases z
                  · exact ih z
                  · cases z
              exact absurd q2 (gen xs)
        · rw [if_neg hj] at h; exact h.elim
    · rw [if_neg (by rw [e]; decide)] at h
      exact h σ' cls d H' G' le st xr
theorem ss_try_only {c : Nat} {y : Str} {np pos' : Pos} {body suite : List Stmt} {b₀ : Stmt} {cb : CSs} {xs : XS} (C : Ck F I k W X) (XT : XcT F) (hs : X.stack = X.env :: X.outer) (hf : X.env.frame = some X.env.locals) (hc : Names X y (.ref (F.c.ca c))) (hsup : F.PG.sup c c = true)
    (hb : ∀ (W : WX) (pn : List (Addr × Obj)) (xe : Value → Shared → Prop), Takes (X.tr pn xe) W → PassesOwn (model X.prog X.w) X.A X.env xe → PSs (X.tr pn xe) body (tss F c1 c0 W cb))
    (hsu : ∀ (a : Addr) (oe : Obj) (cls : Value) (d : Option Addr) (pn : List (Addr × Obj)), Zc cls d oe → (∃ vs, oe.data = .fields vs) → PSs (X.suite a ((a, oe) :: pn)) (b₀ :: suite) (txs F none a cls d xs)) :
    PS X (.Try body [.ExceptHandler (some (.Name y np)) none (b₀ :: suite) pos'] [] [] pos) (tst F c1 c0 W (.try_ cb c none xs)) := by
  refine PS.imp (ps_try_only hs hf hc C.tk hb hsu) fun D σ H ⟨G, S, T, hs, h⟩ => ⟨G, S, T, hs, ?_⟩
  have h : WantS F W G T D (match ess F.PG c1 c0 cb S with
    | .exc c' fs S => if F.PG.sup c' c = true then
        (match exS F.PG c' fs xs with
        | some f => .ok f S
        | none => .bad)
      else .exc c' fs S
    | r => r) := h
  cases q : ess F.PG c1 c0 cb S with
  | bad => rw [q] at h; exact h
  | ok f S1 => rw [q] at h; exact WantS.anyW h
  | exc c' fs S1 =>
    rw [q] at h
    have h : WantS F W G T D (if F.PG.sup c' c = true then
        (match exS F.PG c' fs xs with
        | some f => .ok f S1
        | none => .bad)
      else .exc c' fs S1) := h
    intro σ' cls d H' G' le st xr
    have ecls := xr.1
    have hx := xr.2.1
    refine ⟨F.PG.sup c' c, by rw [ecls, C.K]; exact XT.exm c' c hx hsup, fun e a ha => ?_, fun e => ?_⟩
    · rw [if_pos e] at h
      cases q2 : exS F.PG c' fs xs with
      | none => rw [q2] at h; exact h.elim
      | some f =>
        rw [q2] at h
        have h : WantS F W G T D (.ok f S1) := h
        refine ⟨G', S1, T, c', fs, f, st, (fun j ej => by cases ej), xr, q2, ?_⟩
        cases f with
        | nx => exact fun H2 G2 le2 z2 => h _ H2 G2 (Gh.le_trans le le2) z2
        | ret m => exact fun V H2 G2 le2 z2 => h V _ H2 G2 (Gh.le_trans le le2) z2
        | brk =>
          have gen : ∀ (r : XS), exS F.PG c' fs r ≠ some .brk := by
            intro r
            induction r with
            | pass => intro z; cases z
            | ret e => intro z; unfold exS at z; split at z <;> cases z
            | ifr t e r ih =>
              intro z
              unfold exS at z
              split at z
              · split at z <;> cases z
              · exact ih z
              · cases z
          exact absurd q2 (gen xs)
        | cnt =>
          have gen : ∀ (r : XS), exS F.PG c' fs r ≠ some .cnt := by
            intro r
            induction r with
            | pass => intro z; cases z
            | ret e => intro z; unfold exS at z; split at z <;> cases z
            | ifr t e r ih =>
              intro z
              unfold exS at z
              split at z
              · split at z <;> cases z
              · exact ih z
              · cases z
          exact absurd q2 (gen xs)
    · rw [if_neg (by rw [e]; decide)] at h
      exact h σ' cls d H' G' le st xr
end
end Tk
/- Snd23 -/
set_option Elab.async false
set_option linter.all false
set_option maxRecDepth 100000
set_option maxHeartbeats 4000000
namespace Tk
open PySem PySem.Spec PyProof.Rows L2
theorem sw_nco {x : Expr} (h : nco x = true) (t : Option Expr) (l : Nat) (env : Env) : swapsWith x t l env = pure false := by
  cases x <;> first | rfl | cases h
theorem sw_attr {x o : Expr} {f : Str} {p : Pos} (l : Nat) (env : Env) : swapsWith x (some (.Attribute o f p)) l env = pure false := by
  cases x <;> rfl
theorem sw_sub {x o e : Expr} {p : Pos} (l : Nat) (env : Env) : swapsWith x (some (.Subscript o e p)) l env = pure false := by
  cases x <;> rfl
theorem sw_tup {x : Expr} {es : List Expr} {k : Nat} {p : Pos} (l : Nat) (env : Env) : swapsWith x (some (.Tuple es k p)) l env = pure false := by
  cases x <;> rfl
theorem sw_false {elt : Expr} {gs : List Comprehension} {scope : Scope} {pos py : Pos} {y : Str} {l : Nat} {env : Env} (hk : env.scope.kind = .function)
    (h : (decide (env.scope.names.lookup y = some .local) && (py.line == pos.line) && !(scope.names.any fun (n, k) => n == y && (k == .local || k == .cell))) = false) : swapsWith (.ListComp elt gs scope pos) (some (.Name y py)) l env = pure false := by
  have hb : env.blockKind = .function := by unfold Env.blockKind; rw [hk]; rfl
  have e : (env.blockKind == .function && env.kindOf y == some .local && py.line == pos.line && !(scope.names.any fun (n, k) => n == y && (k == .local || k == .cell))) = false := by
    rw [hb, ← h]
    have e1 : (env.kindOf y == some .local) = decide (env.scope.names.lookup y = some .local) := by
      show (env.scope.names.lookup y == some .local) = _
      by_cases q : env.scope.names.lookup y = some .local
      · rw [q]; rfl
      · rw [decide_eq_false q, beq_eq_false_iff_ne]; exact q
    rw [e1]
    rfl
  unfold swapsWith
  simp only [Expr.pos]
  show (pure _ : Sem Bool) = pure false
  rw [e]
/-- what the tables say of exceptions -/
structure NfX (F : Fx) (nm : Nm) : Prop where
  xn : ∀ y c, nm.xn.lookup y = some c → F.mg y = some (.ref (F.c.ca c)) ∧ F.PG.sup c c = true
  xr : ∀ c, c ∈ nm.xr → XcF F c
  xt : XcT F
/-- a def's body runs -/
structure Cs (F : Fx) (I : If) (k : Nat) (W : WX) (X : Cx) : Prop extends Ck F I k W X where
  po : PassesOwn (model X.prog X.w) X.A X.env X.xe
  stk : X.stack = X.env :: X.outer
  frm : X.env.frame = some X.env.locals
  kd : X.env.scope.kind = .function
section
variable {F : Fx} {I : If} {k : Nat} {W : WX} {X : Cx} {c1 c0 : CallFn} {ce ca cc co ck : CE} {ces : CEs} {a' b o e : Expr} {es args : List Expr} {pos apos p spos : Pos} {a : Addr} {oe : Obj} {cls : Value} {d : Option Addr} {pn : List (Addr × Obj)} {j : Option Nat}
/-! ### suites -/
theorem sx_var (C : Ck F I k W X) {y : Str} (h : xnmB I j y = true) : ∃ i, j = some i ∧ ∀ py, PE (X.suite a ((a, oe) :: pn)) (.Name y py) (tVar i) := by
  unfold xnmB at h
  split at h
  · rename_i i
    refine ⟨i, rfl, fun py => ?_⟩
    unfold slotB at h
    simp only [Bool.and_eq_true, decide_eq_true_eq] at h
    exact pe_var (X := X.suite a ((a, oe) :: pn)) (show X.N[i]? = some y by rw [C.N]; exact h.1.1) (vis_ok C h.1.2) (nOk1 h.2) (nOk2 h.2)
  · cases h
theorem xe_cstB {dv : D} (Y : Cx) (h : cstB dv e = true) : PE Y e (txe F j a cls d (.cst dv)) ∧ plT e = true := by
  unfold cstB at h
  split at h
  · rename_i i j _ _
    obtain rfl : i = j := by simpa using h
    exact ⟨xe_cst pe_int fun _ _ => .int _, rfl⟩
  · rename_i i j _ _
    obtain rfl : i = j := by simpa using h
    exact ⟨xe_cst pe_bl fun _ _ => .bl _, rfl⟩
  · exact ⟨xe_cst pe_non fun _ _ => .non, rfl⟩
  · rename_i s y _ _
    obtain rfl : s = unS y := by simpa using h
    exact ⟨xe_cst pe_str fun _ _ => .str y, rfl⟩
  · cases h
theorem both {x : XE} {Y : Cx} (z : PE Y e (txe F j a cls d x)) (h : plT e = true) : PE Y e (txe F j a cls d x) ∧ PT Y e (txt F j a cls d x) := ⟨z, xt_val z h⟩
theorem sxe (C : Ck F I k W X) (NF : Nf F I.nm) (NX : NfX F I.nm) (hz : Zc cls d oe) (hf : ∃ vs, oe.data = .fields vs) : ∀ (x : XE) (e : Expr), chkXE I j x e = true → PE (X.suite a ((a, oe) :: pn)) e (txe F j a cls d x) ∧ PT (X.suite a ((a, oe) :: pn)) e (txt F j a cls d x)
  | .cst dv, e, h => by
    obtain ⟨h1, h2⟩ := xe_cstB (F := F) (j := j) (a := a) (cls := cls) (d := d) (X.suite a ((a, oe) :: pn)) h
    exact ⟨h1, xt_val h1 h2⟩
  | .exf f, e, h => by
    unfold chkXE at h
    split at h
    · rw [Bool.and_eq_true, decide_eq_true_eq] at h
      obtain ⟨rfl, h2⟩ := h
      obtain ⟨i, ej, pv⟩ := sx_var (a := a) (oe := oe) (pn := pn) C h2
      rw [← NF.nmE, ej]
      exact both (xe_exf NX.xt C.K hz hf (pv _) rfl) rfl
    · cases h
  | .exi c, e, h => by
    unfold chkXE at h
    split at h
    · simp only [Bool.and_eq_true, decide_eq_true_eq] at h
      obtain ⟨⟨⟨⟨⟨rfl, h1⟩, h2⟩, h3⟩, h4⟩, h5⟩ := h
      obtain ⟨i, ej, pv⟩ := sx_var (a := a) (oe := oe) (pn := pn) C h2
      obtain ⟨q1, q2⟩ := NX.xn _ c h5
      rw [ej]
      exact both (xe_exi NX.xt C.K hz hf (pv _) q2 (pe_glob (X := X.suite a ((a, oe) :: pn)) (v := .ref (F.c.ca c)) (gl_ok C h3) (show X.mg _ = _ by rw [C.mg]; exact q1) rfl (nOk1 h4)) (gl_ok C h1) (by rw [C.mg]; exact NF.bn _ (by decide)) rfl rfl) rfl
    · cases h
  | .not x, e, h => by
    unfold chkXE at h
    split at h
    · obtain ⟨z1, z2⟩ := sxe C NF NX hz hf x _ h
      exact ⟨xe_not z1, xt_not z2⟩
    · cases h
  | .and x y, e, h => by
    unfold chkXE at h
    split at h
    · rw [Bool.and_eq_true] at h
      obtain ⟨z1, z2⟩ := sxe C NF NX hz hf x _ h.1
      obtain ⟨w1, w2⟩ := sxe C NF NX hz hf y _ h.2
      exact ⟨xe_and z1 w1, xt_and z2 w2⟩
    · cases h
  | .tup1 x, e, h => by
    unfold chkXE at h
    split at h
    · rw [Bool.and_eq_true] at h
      exact both (xe_tup1 (sxe C NF NX hz hf x _ h.2).1 h.1) rfl
    · cases h
  | .tup2 x y, e, h => by
    unfold chkXE at h
    split at h
    · simp only [Bool.and_eq_true] at h
      exact both (xe_tup2 (sxe C NF NX hz hf x _ h.1.2).1 (sxe C NF NX hz hf y _ h.2).1 h.1.1.1 h.1.1.2) rfl
    · cases h
  | .tup3 x y z, e, h => by
    unfold chkXE at h
    split at h
    · simp only [Bool.and_eq_true] at h
      obtain ⟨⟨⟨⟨⟨h1, h2⟩, h3⟩, h4⟩, h5⟩, h6⟩ := h
      exact both (xe_tup3 (sxe C NF NX hz hf x _ h4).1 (sxe C NF NX hz hf y _ h5).1 (sxe C NF NX hz hf z _ h6).1 h1 h2 h3) rfl
    · cases h
theorem sxs (C : Ck F I k W X) (NF : Nf F I.nm) (NX : NfX F I.nm) (hz : Zc cls d oe) (hf : ∃ vs, oe.data = .fields vs) : ∀ (xs : XS) (ss : List Stmt), chkXS I j xs ss = true → PSs (X.suite a ((a, oe) :: pn)) ss (txs F j a cls d xs)
  | .pass, ss, h => by
    unfold chkXS at h
    split at h
    · exact xs_nil
    · exact xs_pass
    · cases h
  | .ret e, ss, h => by
    unfold chkXS at h
    split at h
    · exact xs_ret (sxe C NF NX hz hf e _ h).1
    · cases h
  | .ifr c e r, ss, h => by
    unfold chkXS at h
    split at h
    · simp only [Bool.and_eq_true] at h
      exact xs_ifr (sxe C NF NX hz hf c _ h.1.1).2 (sxe C NF NX hz hf e _ h.1.2).1 (sxs C NF NX hz hf r _ h.2)
    · cases h
end
end Tk
/- Snd24 -/
set_option Elab.async false
set_option linter.all false
set_option maxRecDepth 100000
set_option maxHeartbeats 4000000
namespace Tk
open PySem PySem.Spec PyProof.Rows L2
section
variable {F : Fx} {I : If} {k : Nat} {W : WX} {X : Cx} {c1 c0 : CallFn} {ce ca cc co ck : CE} {ces : CEs} {a' b o e x : Expr} {es args : List Expr} {pos apos p spos py : Pos} {cls : Value} {d : Option Addr} {pn : List (Addr × Obj)} {j : Option Nat} {y : Str} {i : Nat}
variable (L1 : Lv F (k + 1) c1) (L0 : Lv F k c0)
include L1 L0
theorem it_ok (C : Ck F I k W X) (NF : Nf F I.nm) {it : CE} {iE tg : Expr} (h : itB I it iE = true) : PI X tg iE (tei F c1 c0 W it) := by
  unfold itB at h
  split at h
  · split at h
    · simp only [Bool.and_eq_true, decide_eq_true_eq] at h
      obtain ⟨⟨⟨⟨rfl, q2⟩, q3⟩, q5⟩, q4⟩ := h
      exact k_rng C NF q2 q3 (snds L1 L0 _ _ I W X C NF q4) (chks_len q4) q5
    · cases h
  · rw [Bool.and_eq_true] at h
    exact sn_it C.K ((snd L1 L0 _ _ I W X C NF h.2).v (not_pk h.1))
/-- name = [..], swapped in -/
theorem asg_comp (C : Cs F I k W X) (NF : Nf F I.nm) (hi : I.N[i]? = some y) (hsw : swB I y py x = true) : ∀ (ce : CE), chk I ce x = true → PS X (.Assign [.Name y py] x spos) (tAsg (tev F c1 c0 W ce) (gName i))
  | .fz c, h => by
    unfold chk at h
    rw [Bool.and_eq_true] at h
    refine PS.imp (asg_comp C NF hi hsw c h.2) fun D σ H ⟨G, S, T, hs, h⟩ => ⟨G, S, T, hs, ?_⟩
    have h : match (ev F.PG c1 c0 c S).bind fun m S => R.ok (M.val m.fz) S with
      | .ok m S' => ∀ V H' G', G.le G' → (pur c = true → Same H H') → Stt F G' H' σ S' ((V, m) :: T) → gName i V σ H' D.nx
      | .exc x fs S' => Xk F W G σ T x fs S'
      | .bad => False := h
    cases q : ev F.PG c1 c0 c S with
    | ok m S1 =>
      rw [q] at h
      have h : ∀ V H' G', G.le G' → (pur c = true → Same H H') → Stt F G' H' σ S1 ((V, .val m.fz) :: T) → gName i V σ H' D.nx := h
      intro V H' G' le sm z
      obtain ⟨G2, l2, z2⟩ := z.freeze
      exact h V H' G2 (Gh.le_trans le l2) sm z2
    | exc x fs S1 => rw [q] at h; exact h
    | bad => rw [q] at h; exact h
  | .comp own tg one it cds elt, h => by
    unfold chk at h
    split at h
    · rename_i ex tE iE ifs scope pp
      simp only [Bool.and_eq_true] at h
      obtain ⟨⟨⟨⟨⟨⟨⟨h1, h2⟩, h3⟩, h4⟩, h5⟩, h6⟩, h7⟩, h8⟩ := h
      unfold swB at hsw
      simp only [Bool.and_eq_true, decide_eq_true_eq] at hsw
      obtain ⟨⟨s1, s2⟩, s3⟩ := hsw
      have s1' : X.env.scope.names.lookup y = some .local := by rw [C.sc]; exact s1
      have ok : BlkOk X.N X.env.scope scope (ownOf I.N own) := by
        have := blkOk_by h2
        rw [← C.N, ← C.sc] at this
        rw [C.N] at this ⊢
        exact this
      have hc : cds = .nil ∨ ∃ c, cds = .cons c .nil := by
        split at h8
        · exact .inl rfl
        · exact .inr ⟨_, rfl⟩
        · cases h8
      have pe := ps_setLc (pos := pp) (spos := spos) (py := py) C.calm C.nd (by rw [C.N]; exact hi) s1' (sw_true C.kd s1' s2 (by cases q : (scope.names.any fun (n, k) => n == y && (k == .local || k == .cell)) <;> first | rfl | (rw [q] at s3; cases s3)))
        (it_ok L1 L0 C.toCk NF (tg := tE) h7) ok (fun s H cl cls fp => tgB_ok (ck_blk C.toCk) h3)
        (ht := fun s H cl cls fp => (show PTs _ ifs (ttC F c1 c0 cds) from by
          have C' := ck_blk (s := s) (H := H) (scope := scope) (cl := cl) (cls := cls) (fp := fp) C.toCk
          split at h8
          · have : ifs = [] := by cases ifs <;> first | rfl | cases h8
            subst this
            exact pts_nil
          · rename_i cd
            split at h8
            · rw [Bool.and_eq_true] at h8
              exact pts_one ((snd L1 L0 cd _ (I.blk scope) WF _ C' NF h8.2).t (not_pk h8.1))
            · cases h8
          · cases h8))
        (fun s H cl cls fp => ((snd L1 L0 elt ex (I.blk scope) WF _ (ck_blk C.toCk) NF h6).v (not_pk h5))) (fun z => nse_fold h1 X.env z)
      refine PS.imp pe fun D σ H hh => ?_
      have hh : tev F c1 c0 W (.comp own tg one it cds elt) σ H fun x H1 => gName i x σ H1 D.nx := hh
      show tLc _ _ _ _ _ σ H _
      rw [own_of]
      exact comp_of hc (fun i hi => List.elem_iff.mp (List.all_eq_true.mp h4 i hi)) hh
    · cases h
  | .cst d, h => by unfold swB at hsw; split at hsw <;> first | (cases hsw; done) | (unfold chk cstB at h; cases d <;> cases h)
  | .var i, h => by unfold swB at hsw; split at hsw <;> first | (cases hsw; done) | (unfold chk at h; cases h)
  | .frz i, h => by unfold swB at hsw; split at hsw <;> first | (cases hsw; done) | (unfold chk at h; cases h)
  | .mov i, h => by unfold swB at hsw; split at hsw <;> first | (cases hsw; done) | (unfold chk at h; cases h)
  | .glo i, h => by unfold swB at hsw; split at hsw <;> first | (cases hsw; done) | (unfold chk at h; cases h)
  | .fld _ i, h => by unfold swB at hsw; split at hsw <;> first | (cases hsw; done) | (unfold chk at h; cases h)
  | .pk i, h => by unfold swB at hsw; split at hsw <;> first | (cases hsw; done) | (unfold chk at h; cases h)
  | .pkf _ i, h => by unfold swB at hsw; split at hsw <;> first | (cases hsw; done) | (unfold chk at h; cases h)
  | .pki _ i, h => by unfold swB at hsw; split at hsw <;> first | (cases hsw; done) | (unfold chk at h; cases h)
  | .tup i, h => by unfold swB at hsw; split at hsw <;> first | (cases hsw; done) | (unfold chk at h; cases h)
  | .lst i, h => by unfold swB at hsw; split at hsw <;> first | (cases hsw; done) | (unfold chk at h; cases h)
  | .dnew, h => by unfold swB at hsw; split at hsw <;> first | (cases hsw; done) | (unfold chk at h; cases h)
  | .op _ i, h => by unfold swB at hsw; split at hsw <;> first | (cases hsw; done) | (unfold chk at h; cases h)
  | .chn _ _ _ _ _, h => by unfold swB at hsw; split at hsw <;> first | (cases hsw; done) | (unfold chk at h; cases h)
  | .and i, h => by unfold swB at hsw; split at hsw <;> first | (cases hsw; done) | (unfold chk at h; cases h)
  | .or i, h => by unfold swB at hsw; split at hsw <;> first | (cases hsw; done) | (unfold chk at h; cases h)
  | .not i, h => by unfold swB at hsw; split at hsw <;> first | (cases hsw; done) | (unfold chk at h; cases h)
  | .ite _ _ i, h => by unfold swB at hsw; split at hsw <;> first | (cases hsw; done) | (unfold chk at h; cases h)
  | .rng i, h => by cases h
  | .call _ i, h => by unfold swB at hsw; split at hsw <;> first | (cases hsw; done) | (unfold chk at h; cases h)
  | .meth _ _ i, h => by unfold swB at hsw; split at hsw <;> first | (cases hsw; done) | (unfold chk at h; cases h)
  | .make _ i, h => by unfold swB at hsw; split at hsw <;> first | (cases hsw; done) | (unfold chk at h; cases h)
mutual
theorem sns : ∀ (c : CS) (s : Stmt) (I : If) (W : WX) (X : Cx), Cs F I k W X → Nf F I.nm → NfX F I.nm → chkS I c s = true → PS X s (tst F c1 c0 W c)
  | .asg i ce, s, I, W, X, C, NF, NX, h => by
    unfold chkS at h
    split at h
    · rename_i y py x sp
      simp only [Bool.and_eq_true, decide_eq_true_eq, Bool.or_eq_true] at h
      obtain ⟨⟨⟨⟨h1, h2⟩, h3⟩, h4⟩, h5⟩ := h
      obtain ⟨l1, l2⟩ := loc_ok C.toCk h2
      have hv := (snd L1 L0 ce x I W X C.toCk NF h4).v (not_pk h3)
      by_cases hsw : swB I y py x = true
      · exact ss_asg (asg_comp L1 L0 C NF h1 hsw ce h4)
      · refine ss_asg (ps_set C.nd (by rw [C.N]; exact h1) l1 hv ?_ l2)
        rcases h5 with h5 | h5
        · exact sw_nco h5 _ _ _
        · split at h5
          · refine sw_false C.kd ?_
            rw [C.sc]
            exact eq_false_of_ne_true hsw
          · cases h5
    · cases h
  | .asgt is ce, s, I, W, X, C, NF, NX, h => by
    unfold chkS at h
    split at h
    · rename_i t x sp
      simp only [Bool.and_eq_true] at h
      obtain ⟨⟨⟨⟨⟨h0, h1⟩, h2⟩, h3⟩, h4⟩, h5⟩ := h
      have hv := (snd L1 L0 ce x I W X C.toCk NF h3).v (not_pk h2)
      refine ss_asgt ?_
      cases t with
      | Tuple es kk pp =>
        refine ps_asg hv (tgB_ok C.toCk h1) (show swapsWith x (some (.Tuple es kk pp)) sp.line X.env = pure false from sw_nco h4 _ _ _) ?_ rfl
        cases x <;> first | rfl | cases h5
      | _ => cases h0
    · cases h
  | .aug i o ce, s, I, W, X, C, NF, NX, h => by
    unfold chkS at h
    split at h
    · simp only [Bool.and_eq_true, decide_eq_true_eq, Bool.or_eq_true] at h
      obtain ⟨⟨⟨⟨h1, h2⟩, h3⟩, h4⟩, h5⟩ := h
      obtain ⟨l1, l2⟩ := loc_ok C.toCk h2
      exact ss_aug C.toCk (by rw [C.N]; exact h1) l1 l2 ((snd L1 L0 ce _ I W X C.toCk NF h4).v (not_pk h3)) h5
    · cases h
  | .setf co f ce, s, I, W, X, C, NF, NX, h => by
    unfold chkS at h
    split at h
    · simp only [Bool.and_eq_true, decide_eq_true_eq] at h
      obtain ⟨⟨⟨⟨h1, h2⟩, h3⟩, h4⟩, h5⟩ := h
      exact ss_setf NF.cf C.K (by rw [NF.nmE]; exact h1) ((snd L1 L0 co _ I W X C.toCk NF h4).v (not_pk h2)) ((snd L1 L0 ce _ I W X C.toCk NF h5).v (not_pk h3)) (sw_attr _ _)
    · cases h
  | .seti i ck ce, s, I, W, X, C, NF, NX, h => by
    unfold chkS at h
    split at h
    · simp only [Bool.and_eq_true] at h
      obtain ⟨⟨⟨⟨h1, h2⟩, h3⟩, h4⟩, h5⟩ := h
      exact ss_seti C.toCk (var_ok C.toCk h1) ((snd L1 L0 ck _ I W X C.toCk NF h4).v (not_pk h2)) ((snd L1 L0 ce _ I W X C.toCk NF h5).v (not_pk h3)) (sw_sub _ _)
    · cases h
  | .setfi co f ck ce, s, I, W, X, C, NF, NX, h => by
    unfold chkS at h
    split at h
    · simp only [Bool.and_eq_true, decide_eq_true_eq] at h
      obtain ⟨⟨⟨⟨⟨⟨⟨⟨h1, h2⟩, h3⟩, h4⟩, h5⟩, h6⟩, h7⟩, h8⟩, h9⟩ := h
      exact ss_setfi C.toCk (by rw [NF.nmE]; exact h1) h2 ((snd L1 L0 co _ I W X C.toCk NF h7).v (not_pk h4)) ((snd L1 L0 ck _ I W X C.toCk NF h8).v (not_pk h5)) h3 ((snd L1 L0 ce _ I W X C.toCk NF h9).v (not_pk h6)) (sw_sub _ _)
    · cases h
  | .app i ce, s, I, W, X, C, NF, NX, h => by
    unfold chkS at h
    split at h
    · simp only [Bool.and_eq_true, decide_eq_true_eq] at h
      obtain ⟨⟨⟨⟨⟨rfl, h2⟩, h3⟩, h4⟩, h5⟩, h6⟩ := h
      exact ss_app C.toCk (var_ok C.toCk h2) ((snd L1 L0 ce _ I W X C.toCk NF h6).v (not_pk h5)) rfl h3 h4
    · cases h
  | .exp ce, s, I, W, X, C, NF, NX, h => by
    unfold chkS at h
    split at h
    · simp only [Bool.and_eq_true] at h
      exact ss_exp (ps_expr ((snd L1 L0 ce _ I W X C.toCk NF h.2).v (not_pk h.1.2)) (sw_nco h.1.1 _ _ _))
    · cases h
  | .ret ce, s, I, W, X, C, NF, NX, h => by
    unfold chkS at h
    split at h
    · rw [Bool.and_eq_true] at h
      exact ss_ret (ps_ret ((snd L1 L0 ce _ I W X C.toCk NF h.2).v (not_pk h.1)))
    · cases h
  | .retn, s, I, W, X, C, NF, NX, h => by
    unfold chkS at h
    split at h
    · exact ss_retn ps_retN
    · cases h
  | .ite cc ca cb, s, I, W, X, C, NF, NX, h => by
    unfold chkS at h
    split at h
    · simp only [Bool.and_eq_true] at h
      exact ss_ite ((snd L1 L0 cc _ I W X C.toCk NF h.1.1.2).t (not_pk h.1.1.1)) (snss ca _ I W X C NF NX h.1.2) (snss cb _ I W X C NF NX h.2)
    · cases h
  | .whl cc cb, s, I, W, X, C, NF, NX, h => by
    unfold chkS at h
    split at h
    · simp only [Bool.and_eq_true] at h
      exact ss_whl C.po ((snd L1 L0 cc _ I W X C.toCk NF h.1.2).t (not_pk h.1.1)) (snss cb _ I W X C NF NX h.2)
    · cases h
  | .for tg one it cb, s, I, W, X, C, NF, NX, h => by
    unfold chkS at h
    split at h
    · simp only [Bool.and_eq_true] at h
      exact ss_for C.po C.calm (it_ok L1 L0 C.toCk NF h.1.2) (tgB_ok C.toCk h.1.1.2) (snss cb _ I W X C NF NX h.2) h.1.1.1
    · cases h
  | .rais c ces, s, I, W, X, C, NF, NX, h => by
    unfold chkS at h
    split at h
    · rename_i y py args pp sp
      simp only [Bool.and_eq_true, decide_eq_true_eq] at h
      obtain ⟨⟨⟨⟨⟨⟨h1, h2⟩, h3⟩, h4⟩, h5⟩, h6⟩, h7⟩ := h
      obtain ⟨q1, q2⟩ := NX.xn y c h3
      have hL := snds L1 L0 ces args I W X C.toCk NF h7
      cases args with
      | nil => cases h6
      | cons e args => exact ss_rais C.toCk (NX.xr c (List.elem_iff.mp h4)) (gl_ok C.toCk h1) (by rw [C.mg]; exact q1) (nOk1 h2) (hL.1 h5) hL.2.2.1
    · cases h
  | .try_ cb c j xs, s, I, W, X, C, NF, NX, h => by
    unfold chkS at h
    split at h
    · rename_i body y py nme b0 suite hp sp
      simp only [Bool.and_eq_true, decide_eq_true_eq] at h
      obtain ⟨⟨⟨⟨⟨h1, h2⟩, h3⟩, h4⟩, h5⟩, h6⟩ := h
      obtain ⟨q1, q2⟩ := NX.xn y c h3
      have hn : Names X y (.ref (F.c.ca c)) := ⟨gl_ok C.toCk h1, nOk1 h2, .inl (by rw [C.mg]; exact q1)⟩
      have hb : ∀ (W : WX) (pn : List (Addr × Obj)) (xe : Value → Shared → Prop), Takes (X.tr pn xe) W → PassesOwn (model X.prog X.w) X.A X.env xe → PSs (X.tr pn xe) body (tss F c1 c0 W cb) := fun W' pn xe tk po =>
        snss cb body I W' (X.tr pn xe) ⟨⟨⟨⟨C.P, C.w, C.K, C.mg⟩, C.base, C.calm, C.nd⟩, C.N, C.sc, C.fn, C.room, C.kpos, tk⟩, po, C.stk, C.frm, C.kd⟩ NF NX h4
      split at h6
      · rename_i i n
        rw [Bool.and_eq_true, decide_eq_true_eq, decide_eq_true_eq] at h6
        exact ss_try_as C.toCk NX.xt C.stk C.frm (by rw [C.N]; exact h6.1) (show X.env.scope.names.lookup n = _ by rw [C.sc]; exact h6.2) hn q2 hb fun a oe cls d pn hz hf => sxs C.toCk NF NX hz hf xs _ h5
      · exact ss_try_only C.toCk NX.xt C.stk C.frm hn q2 hb fun a oe cls d pn hz hf => sxs C.toCk NF NX hz hf xs _ h5
      · cases h6
    · cases h
  | .pass, s, I, W, X, C, NF, NX, h => by
    unfold chkS at h
    split at h
    · exact ss_nx ps_pass
    · exact ss_nx ps_doc
    · cases h
  | .brk, s, I, W, X, C, NF, NX, h => by
    unfold chkS at h
    split at h
    · exact ss_brk ps_break
    · cases h
  | .cnt, s, I, W, X, C, NF, NX, h => by
    unfold chkS at h
    split at h
    · exact ss_cnt ps_continue
    · cases h
theorem snss : ∀ (cs : CSs) (ss : List Stmt) (I : If) (W : WX) (X : Cx), Cs F I k W X → Nf F I.nm → NfX F I.nm → chkSs I cs ss = true → PSs X ss (tss F c1 c0 W cs)
  | .nil, ss, I, W, X, C, NF, NX, h => by
    have : ss = [] := by cases ss <;> first | rfl | cases h
    subst this
    exact ss_nil
  | .cons c cs, ss, I, W, X, C, NF, NX, h => by
    unfold chkSs at h
    split at h
    · rw [Bool.and_eq_true] at h
      exact ss_cons (sns c _ I W X C NF NX h.1) (snss cs _ I W X C NF NX h.2)
    · cases h
end
end
end Tk
/- Snd25 -/
set_option Elab.async false
set_option linter.all false
set_option maxRecDepth 100000
set_option maxHeartbeats 4000000
namespace Tk
open PySem PySem.Spec PyProof.Rows L2
/-- a def of the core is a def of the text -/
structure FnF (F : Fx) (nm : Nm) (f : Nat) (Fn : Fn) : Prop where
  ex : ∃ (x qual : Str) (params : Arguments) (body : List Stmt) (scope : Scope) (fd : FuncData) (N ps : List Str), L2.FunD F.K x qual params body scope [] [] (F.fa f) fd ∧ FnScope N ps scope ∧ Binds F.K fd ps [] ∧ N.length = Fn.ns ∧ ps.length = Fn.np ∧
    chkSs ⟨N, scope, fun _ => true, nm⟩ Fn.body body = true
section
variable {F : Fx} {nm : Nm} {G G' : Gh} {H H' : Hp} {σ : L2.St} {S : Sg} {T : List (V × M)} {ob : List Ob}
theorem Rp.pre {L R : List (V × M)} (h : Rp F.P F.w F.K F.c G H (L ++ R) ob) : Rp F.P F.w F.K F.c G H R ob := by
  induction L with
  | nil => exact h
  | cons x L ih => exact ih h.tail
theorem Rp.valsIn : ∀ {vs : List V} {ds : List D}, RepDs F.P F.w F.K G H vs ds → Rp F.P F.w F.K F.c G H T ob → Rp F.P F.w F.K F.c G H (vs.zip (ds.map .val) ++ T) ob
  | _, _, .nil, h => h
  | _, _, .cons a b, h => (Rp.valsIn b h).val a
theorem lv_bad (FN : ∀ f Fn, F.PG.fn f = some Fn → FnF F nm f Fn) (k : Nat) : Lv F k (fun _ _ _ => .bad) := by
  intro f Fn hf
  obtain ⟨x, qual, params, body, scope, fd, N, ps, h1, _, h3, _⟩ := (FN f Fn hf).ex
  exact ⟨fd, ps, ⟨fun vs H Q E ⟨_, _, _, _, _, _, z⟩ => z.elim, fun A outer s H args us vs Q E _ _ _ _ ⟨_, _, _, _, _, _, z⟩ => z.elim⟩, h1.kp, h3⟩
theorem fn_step (NF : Nf F nm) (NX : NfX F nm) {n f : Nat} {Fn : Fn} {x qual : Str} {params : Arguments} {body : List Stmt} {scope : Scope} {fd : FuncData} {N ps : List Str} (hf : F.PG.fn f = some Fn) (h1 : L2.FunD F.K x qual params body scope [] [] (F.fa f) fd) (h2 : FnScope N ps scope)
    (h4 : N.length = Fn.ns) (h5 : ps.length = Fn.np) (h6 : chkSs ⟨N, scope, fun _ => true, nm⟩ Fn.body body = true) (L1 : Lv F (n + 2) (callN F.PG n).1) (L0 : Lv F (n + 1) (callN F.PG n).2) :
    FnOk F.P F.w F.K F.mg F.base (L2.CX F.P F.w) (n + 3) (F.fa f) fd ps (spF F (callN F.PG (n + 1)).1 f) := by
  have def0 : ∀ ds ob, (callN F.PG (n + 1)).1 f ds ob = if ds.length = Fn.np then (match ess F.PG (callN F.PG n).1 (callN F.PG n).2 Fn.body ⟨ds.map (fun d => some (.val d)) ++ List.replicate (Fn.ns - Fn.np) none, ob⟩ with
        | .ok (.ret m) S => .ok m S.ob
        | .ok .nx S => .ok (.val .non) S.ob
        | .exc c fs S => .exc c fs S.ob
        | _ => .bad) else .bad := fun ds ob => by
    show (match F.PG.fn f with | some Fn => _ | none => _) = _
    rw [hf] <;> rfl
  have hlen : ∀ vs H Q E, spF F (callN F.PG (n + 1)).1 f vs H Q E → vs.length = ps.length := fun vs H Q E ⟨G, ds, ob, T, rd, rp, h⟩ => by
    rw [def0] at h
    by_cases hl : ds.length = Fn.np
    · rw [rd.len, hl, h5]
    · rw [if_neg hl] at h; exact h.elim
  refine h1.ok h2 hlen fun cdv A outer s H vs Q E hr hsp => ?_
  have hvl := hlen vs H Q E hsp
  obtain ⟨G, ds, ob, T, rd, rp, h⟩ := hsp
  rw [def0] at h
  have hl : ds.length = Fn.np := by rw [← rd.len, hvl, h5]
  rw [if_pos hl] at h
  have C : Cs F ⟨N, scope, fun _ => true, nm⟩ (n + 1) (fun cls d _ H => E cls d H) (cxOf (L2.CX F.P F.w) F.P F.w F.K F.mg F.base N qual scope (F.fa f) cdv A outer s H E) :=
    ⟨⟨⟨⟨rfl, rfl, rfl, rfl⟩, rfl, rfl, h2.nd⟩, rfl, rfl, fun _ _ => rfl, hr, Nat.le_add_left 1 n, takes_of rfl rfl rfl rfl⟩, passes_of (X := cxOf (L2.CX F.P F.w) F.P F.w F.K F.mg F.base N qual scope (F.fa f) cdv A outer s H E) (K := fun e s'' => L2.CX F.P F.w outer H s E e s'') rfl, rfl, rfl, h2.kind⟩
  refine ⟨_, snss L1 L0 Fn.body (body) _ _ _ C NF NX h6, ?_⟩
  have e1 : ds.map (fun d => some (M.val d)) = (ds.map M.val).map some := by rw [List.map_map]; rfl
  have e2 : N.length - vs.length = Fn.ns - Fn.np := by rw [h4, hvl, h5]
  have sl : SlR (L2.start N vs) (ds.map (fun d => some (M.val d)) ++ List.replicate (Fn.ns - Fn.np) none) (vs.zip (ds.map M.val)) := by
    rw [e1]
    unfold L2.start
    rw [e2]
    exact SlR.start (by rw [rd.len, List.length_map])
  refine ⟨G, ⟨ds.map (fun d => some (M.val d)) ++ List.replicate (Fn.ns - Fn.np) none, ob⟩, T, ⟨_, sl, Rp.valsIn rd rp⟩, ?_⟩
  cases q : ess F.PG (callN F.PG n).1 (callN F.PG n).2 Fn.body ⟨ds.map (fun d => some (M.val d)) ++ List.replicate (Fn.ns - Fn.np) none, ob⟩ with
  | bad => rw [q] at h; exact h.elim
  | exc y fs S1 =>
    rw [q] at h
    exact fun σ' cls d H' G' le ⟨L, _, rp'⟩ xr => h cls d H' G' le (Rp.pre rp') xr
  | ok fl S1 =>
    rw [q] at h
    cases fl with
    | brk => exact h.elim
    | cnt => exact h.elim
    | nx =>
      have h : ∀ V H' G', G.le G' → Rp F.P F.w F.K F.c G' H' ((V, .val .non) :: T) S1.ob → Q V H' := h
      exact fun σ' H' G' le ⟨L, _, rp'⟩ => h .non H' G' le ((Rp.pre rp').val .non)
    | ret m => exact fun V σ' H' G' le ⟨L, _, rp'⟩ => h V H' G' le (Rp.pre rp')
theorem lv_step (NF : Nf F nm) (NX : NfX F nm) (FN : ∀ f Fn, F.PG.fn f = some Fn → FnF F nm f Fn) {n : Nat} (L1 : Lv F (n + 2) (callN F.PG n).1) (L0 : Lv F (n + 1) (callN F.PG n).2) : Lv F (n + 3) (callN F.PG (n + 1)).1 := by
  intro f Fn hf
  obtain ⟨x, qual, params, body, scope, fd, N, ps, h1, h2, h3, h4, h5, h6⟩ := (FN f Fn hf).ex
  exact ⟨fd, ps, fn_step NF NX hf h1 h2 h4 h5 h6 L1 L0, h1.kp, h3⟩
/-- every level -/
theorem lv_all (NF : Nf F nm) (NX : NfX F nm) (FN : ∀ f Fn, F.PG.fn f = some Fn → FnF F nm f Fn) : ∀ n, Lv F (n + 2) (callN F.PG n).1 ∧ Lv F (n + 1) (callN F.PG n).2
  | 0 => ⟨lv_bad FN 2, lv_bad FN 1⟩
  | n + 1 => by
    obtain ⟨h1, h2⟩ := lv_all NF NX FN n
    exact ⟨lv_step NF NX FN h1 h2, h1⟩
end
end Tk
/- Snd26 -/
set_option Elab.async false
set_option linter.all false
set_option maxRecDepth 100000
set_option maxHeartbeats 4000000
namespace Tk
open PySem PySem.Spec PyProof.Rows L2
/-! ### the __init__ of an exception class -/
def xiB (I : If) : List Nat → Nat → List Stmt → Bool
  | [], _, ss => ss.isEmpty
  | f :: fs, i, ss => (match ss with
    | .Assign [.Attribute (.Name s _) a _] (.Name y _) _ :: ss => slotB I 0 s && slotB I i y && decide (a = I.nm.nm f) && xiB I fs (i + 1) ss
    | _ => false)
def txi (K : PySem.W.Frag) (nm : Nat → Str) : List Nat → Nat → TS
  | [], _ => tNext
  | f :: fs, i => tSeq (tOst K (nm f) (tVar 0) (tVar i)) (txi K nm fs (i + 1))
theorem lookup_mem : ∀ {l : List (Str × V)} {a : Str} {v : V}, (l.map (·.1)).Nodup → (a, v) ∈ l → l.lookup a = some v
  | [], _, _, _, h => by cases h
  | (b, w) :: l, a, v, nd, h => by
    rw [List.map_cons] at nd
    obtain ⟨n1, n2⟩ := List.nodup_cons.mp nd
    rcases List.mem_cons.mp h with h | h
    · cases h
      exact lookup_hit
    · have ne : a ≠ b := fun e => n1 (by rw [← e]; exact List.mem_map.mpr ⟨(a, v), h, rfl⟩)
      rw [lookup_miss ne]
      exact lookup_mem n2 h
section
variable {F : Fx} {nm : Nm}
theorem xi_ps {I : If} {k : Nat} {W : WX} {X : Cx} (hN : X.N = I.N) (hs : X.env.scope = I.sc) (hnm : F.c.nm = I.nm.nm) : ∀ (fs : List Nat) (i : Nat) (ss : List Stmt), xiB I fs i ss = true → PSs X ss (txi X.K F.c.nm fs i)
  | [], i, ss, h => by
    have : ss = [] := by cases ss <;> first | rfl | cases h
    subst this
    exact pss_nil
  | f :: fs, i, ss, h => by
    unfold xiB at h
    split at h
    · rename_i s sp a ap y yp p rest
      simp only [Bool.and_eq_true, decide_eq_true_eq] at h
      obtain ⟨⟨⟨h1, h2⟩, h3⟩, h4⟩ := h
      have vr : ∀ {j : Nat} {z : Str} {q : Pos}, slotB I j z = true → PE X (.Name z q) (tVar j) := fun {j z q} hz => by
        unfold slotB at hz
        simp only [Bool.and_eq_true, decide_eq_true_eq] at hz
        refine pe_var (by rw [hN]; exact hz.1.1) ?_ (nOk1 hz.2) (nOk2 hz.2)
        unfold Vis
        rw [hs]
        have hv := hz.1.2
        unfold visB at hv
        split at hv
        · exact .inl (by assumption)
        · exact .inr (.inl (by assumption))
        · exact .inr (.inr (by assumption))
        · cases hv
      rw [← hnm] at h3
      subst h3
      exact pss_cons (ps_ost (vr h1) (vr h2) (sw_attr _ _)) (xi_ps (k := k) (W := W) hN hs hnm fs (i + 1) _ h4)
    · cases h
theorem xi_more {K : PySem.W.Frag} {a C dx : Addr} {σ : L2.St} {D : Ends} (T : OexC K C) (h0 : σ[0]? = some (some (.ref a))) (ne : dx ≠ a) :
    ∀ (fs : List Nat) (i : Nat) (ws : List V) (H : Hp) (xs : List (Str × V)), ws.length = fs.length → (∀ (j : Nat) (v : V), ws[j]? = some v → σ[i + j]? = some (some v)) → (∀ f ∈ fs, PySem.W.findIn K (.ref C) (F.c.nm f) = some none) →
      H a = some (exo a C (some dx)) → H dx = some (exd dx xs) → xs.length + fs.length ≤ 900 →
      (∀ H2, H2 a = some (exo a C (some dx)) → H2 dx = some (exd dx (((fs.map F.c.nm).zip ws).reverse ++ xs)) → (∀ b, b ≠ a → b ≠ dx → H2 b = H b) → D.nx σ H2) → txi K F.c.nm fs i D σ H
  | [], i, [], H, xs, _, _, _, e1, e2, _, k => k H e1 e2 fun _ _ _ => rfl
  | f :: fs, i, w :: ws, H, xs, hl, hσ, hf, e1, e2, hz, k => by
    have hw : σ[i]? = some (some w) := hσ 0 w rfl
    refine ⟨w, hw, .ref a, h0, a, C, rfl, T, hf f List.mem_cons_self, .inr ⟨dx, xs, e1, e2, by simp at hz; omega, ?_⟩⟩
    refine xi_more T h0 ne fs (i + 1) ws (upd H dx (exd dx ((F.c.nm f, w) :: xs))) ((F.c.nm f, w) :: xs) (Nat.succ.inj hl) (fun j v hj => ?_) (fun g hg => hf g (List.mem_cons_of_mem _ hg)) (by rw [upd_ne (Ne.symm ne)]; exact e1) upd_same (by simp at hz ⊢; omega) fun H2 q1 q2 q3 => ?_
    · have := hσ (j + 1) v hj
      rwa [show i + (j + 1) = i + 1 + j by omega] at this
    · refine k H2 q1 ?_ fun b b1 b2 => by rw [q3 b b1 b2, upd_ne b2]
      rw [q2]
      simp
  | [], _, _ :: _, _, _, hl, _, _, _, _, _, _ => by cases hl
  | _ :: _, _, [], _, _, hl, _, _, _, _, _, _ => by cases hl
theorem xc_init {x : Nat} {qual : Str} {params : Arguments} {body : List Stmt} {scope : Scope} {fI : Addr} {fd : FuncData} {N : List Str} (NF : Nf F nm) (XT : XcT F) (hx : F.PG.sup x x = true) (T : OexC F.K (F.c.ca x)) (iC : PySem.W.findIn F.K (.ref (F.c.ca x)) "__init__" = some (some (.ref fI))) (tI : PySem.W.typeIn F.K (.ref fI) = some (.type "function"))
    (h1 : L2.FunD F.K "__init__" qual params body scope [] [] fI fd) (h2 : FnScope N N scope) (h3 : Binds F.K fd N []) (hl : N.length = (F.PG.xf x).length + 1) (h900 : (F.PG.xf x).length ≤ 900) (hne : F.PG.xf x ≠ []) (hnd : (F.PG.xf x).Nodup)
    (hb : xiB ⟨N, scope, fun _ => true, nm⟩ (F.PG.xf x) 1 body = true) : XcF F x := by
  have hlen : ∀ vs H Q E, spX F x vs H Q E → vs.length = N.length := fun vs H Q E ⟨a, ws, H1, e1, _, _, e2, _⟩ => by rw [e1, List.length_cons, e2, hl]
  refine ⟨fI, fd, N, T, iC, tI, h1.ok h2 hlen fun cdv A outer s H vs Q E hr hsp => ?_, h3⟩
  refine ⟨txi F.K F.c.nm (F.PG.xf x) 1, ?_, ?_⟩
  · exact xi_ps (k := 0) (W := WF) (X := cxOf (L2.CX F.P F.w) F.P F.w F.K F.mg F.base N qual scope fI cdv A outer s H E) rfl rfl NF.nmE (F.PG.xf x) 1 _ hb
  · obtain ⟨a, ws, H1, rfl, ha, rfl, hw, kk⟩ := hsp
    have hst : L2.start N (.ref a :: ws) = some (.ref a) :: ws.map some := by
      unfold L2.start
      rw [show N.length - (V.ref a :: ws).length = 0 by rw [List.length_cons, hw, hl]; omega]
      simp
    rw [hst]
    have hσ : ∀ (j : Nat) (v : V), ws[j]? = some v → (some (V.ref a) :: ws.map some)[1 + j]? = some (some v) := fun j v e => by
      rw [Nat.add_comm, List.getElem?_cons_succ, List.getElem?_map, e]; rfl
    have final : ∀ (dx : Addr) (H2 : Hp), H1 dx = none → dx ≠ a → H2 a = some (exo a (F.c.ca x) (some dx)) → H2 dx = some (exd dx (((F.PG.xf x).map F.c.nm).zip ws).reverse) → (∀ b, b ≠ a → b ≠ dx → H2 b = H1 b) → Q .non H2 := fun dx H2 q0 ne q1 q2 q3 => by
      refine kk dx H2 _ q0 ne q1 q2 q3 fun i f v e1 e2 => ?_
      have hnd2 : ((((F.PG.xf x).map F.c.nm).zip ws).map (·.1)).Nodup := by
        have e : (((F.PG.xf x).map F.c.nm).zip ws).map (·.1) = (F.PG.xf x).map F.c.nm := by
          rw [List.map_fst_zip]
          rw [List.length_map, hw]
          exact Nat.le_refl _
        rw [e]
        exact List.pairwise_map.mpr (hnd.imp fun h e => h (F.inj _ _ e))
      have hm : (F.c.nm f, v) ∈ ((F.PG.xf x).map F.c.nm).zip ws := by
        refine List.mem_of_getElem? (i := i) ?_
        rw [List.getElem?_zip_eq_some]
        exact ⟨by rw [List.getElem?_map, e1]; rfl, e2⟩
      refine lookup_mem ?_ (List.mem_reverse.mpr hm)
      rw [List.map_reverse]
      exact (List.reverse_perm _).nodup_iff.mpr hnd2
    cases qf : F.PG.xf x with
    | nil => exact absurd qf hne
    | cons f fs =>
      rw [qf] at hw h900
      cases ws with
      | nil => cases hw
      | cons w ws =>
        have hfn : ∀ g ∈ f :: fs, PySem.W.findIn F.K (.ref (F.c.ca x)) (F.c.nm g) = some none := fun g hg => XT.fno x g hx (by rw [qf]; exact hg)
        refine ⟨w, hσ 0 w rfl, .ref a, rfl, a, F.c.ca x, rfl, T, hfn f List.mem_cons_self, .inl ⟨upd_same, fun dx hdx ne => ?_⟩⟩
        have hdx1 : H1 dx = none := by rw [upd_ne ne] at hdx; exact hdx
        refine xi_more T rfl ne fs 2 ws _ [(F.c.nm f, w)] (Nat.succ.inj hw) (fun j v e => ?_) (fun g hg => hfn g (List.mem_cons_of_mem _ hg)) upd_same (by rw [upd_ne ne, upd_same]) (by simp at h900 ⊢; omega) fun H2 q1 q2 q3 => ?_
        · have := hσ (j + 1) v e
          rwa [show 1 + (j + 1) = 2 + j by omega] at this
        · refine final dx H2 hdx1 ne q1 ?_ fun b b1 b2 => by rw [q3 b b1 b2, upd_ne b1, upd_ne b2, upd_ne b1]
          rw [q2, qf]
          simp
end
end Tk
/- Fact1 -/
set_option Elab.async false
set_option linter.all false
set_option maxRecDepth 100000
set_option maxHeartbeats 1000000
/-! Tk.Fact1: what the head tells, as Bools. -/
namespace Tk
open PySem PySem.Spec PyProof.Rows L2
/-! ### constants of the top -/
mutual
def repB (K : PySem.W.Frag) : D → Value → Bool
  | .non, u => (match u with | .none => true | _ => false)
  | .bl b, u => (match u with | .bool c => b == c | _ => false)
  | .int i, u => (match u with | .int j _ => i == j | _ => false)
  | .str s, u => (match u with | .str x _ => s == unS x | _ => false)
  | .tup ds, u => (match u with
    | .ref a => (match K.lookup a with
      | some ⟨.type c, _, .seq its _, _⟩ => decide (c = "tuple") && decide (its.size ≤ sizeLine) && repBs K ds its.toList
      | _ => false)
    | _ => false)
  | .scr ds, u => (match u with
    | .ref a => (match K.lookup a with
      | some ⟨.type c, none, .seq its _, _⟩ => decide (c = "list") && decide (its.size ≤ sizeLine) && repBs K ds its.toList
      | _ => false)
    | _ => false)
  | _, _ => false
def repBs (K : PySem.W.Frag) : List D → List Value → Bool
  | [], us => us.isEmpty
  | d :: ds, us => (match us with | u :: us => repB K d u && repBs K ds us | [] => false)
end
section
variable {K : PySem.W.Frag}
mutual
theorem repB_ok : ∀ (d : D) (u : Value), repB K d u = true → ∃ v, RelV v u ∧ ∀ P w G H, RepD P w K G H v d
  | .non, u, h => by
    unfold repB at h
    split at h
    · exact ⟨.non, rfl, fun _ _ _ _ => .non⟩
    · cases h
  | .bl b, u, h => by
    unfold repB at h
    split at h
    · rename_i c
      obtain rfl : b = c := by simpa using h
      exact ⟨.bl b, rfl, fun _ _ _ _ => .bl b⟩
    · cases h
  | .int i, u, h => by
    unfold repB at h
    split at h
    · rename_i j t
      obtain rfl : i = j := by simpa using h
      exact ⟨.int i, ⟨t, rfl⟩, fun _ _ _ _ => .int i⟩
    · cases h
  | .str s, u, h => by
    unfold repB at h
    split at h
    · rename_i x t
      obtain rfl : s = unS x := by simpa using h
      exact ⟨.str x, ⟨t, rfl⟩, fun _ _ _ _ => .str x⟩
    · cases h
  | .tup ds, u, h => by
    unfold repB at h
    split at h
    · rename_i a
      split at h
      · rename_i c od its n sl e
        simp only [Bool.and_eq_true, decide_eq_true_eq] at h
        obtain ⟨⟨rfl, h2⟩, h3⟩ := h
        obtain ⟨vs, r1, r2⟩ := repBs_ok ds _ h3
        exact ⟨.ref a, rfl, fun P w G H => .tup (.inr ⟨_, its, n, e, rfl, rfl, h2, r1⟩) (r2 P w G H)⟩
      · cases h
    · cases h
  | .scr ds, u, h => by
    unfold repB at h
    split at h
    · rename_i a
      split at h
      · rename_i c its n sl e
        simp only [Bool.and_eq_true, decide_eq_true_eq] at h
        obtain ⟨⟨rfl, h2⟩, h3⟩ := h
        obtain ⟨vs, r1, r2⟩ := repBs_ok ds _ h3
        exact ⟨.ref a, rfl, fun P w G H => .scr (.inr ⟨_, its, n, e, rfl, rfl, rfl, h2, r1⟩) (r2 P w G H)⟩
      · cases h
    · cases h
  | .lst _, _, h => by cases h
  | .dct _, _, h => by cases h
  | .obj _, _, h => by cases h
theorem repBs_ok : ∀ (ds : List D) (us : List Value), repBs K ds us = true → ∃ vs, Vals vs us ∧ ∀ P w G H, RepDs P w K G H vs ds
  | [], us, h => by
    have : us = [] := by cases us <;> first | rfl | cases h
    subst this
    exact ⟨[], .nil, fun _ _ _ _ => .nil⟩
  | d :: ds, us, h => by
    unfold repBs at h
    split at h
    · rw [Bool.and_eq_true] at h
      obtain ⟨v, a1, a2⟩ := repB_ok d _ h.1
      obtain ⟨vs, b1, b2⟩ := repBs_ok ds _ h.2
      exact ⟨v :: vs, .cons a1 b1, fun P w G H => .cons (a2 P w G H) (b2 P w G H)⟩
    · cases h
end
/-! ### classes -/
def clxB (K : PySem.W.Frag) (C : Addr) : Bool := PySem.W.plainGet K C Str.empty && PySem.W.hasDictIn K C && PySem.W.plainOver K C && He.eqO (PySem.W.findIn K (.ref C) "__setattr__") (some (some (.builtin "object.__setattr__"))) &&
  He.eqO (PySem.W.findIn K (.ref C) "__class__") (some (some (.builtin "object.__class__"))) && He.eqO (PySem.W.specialIn K (.builtin "object.__class__") "__get__") (some (some (.builtin "getset_descriptor.__get__"))) &&
  decide (PySem.W.takesIn K (.builtin "object.__class__") = some true) && decide (PySem.W.mroIn K C (.type "object") = some true)
theorem clxB_ok {C : Addr} (h : clxB K C = true) : ClX K C := by
  unfold clxB at h
  simp only [Bool.and_eq_true, decide_eq_true_eq] at h
  obtain ⟨⟨⟨⟨⟨⟨⟨h1, h2⟩, h3⟩, h4⟩, h5⟩, h6⟩, h7⟩, h8⟩ := h
  exact ⟨⟨h1, h2, h3, He.eqO_ok h4⟩, He.eqO_ok h5, He.eqO_ok h6, h7, h8⟩
def exccB (K : PySem.W.Frag) (C : Addr) : Bool := He.eqO (PySem.W.findIn K (.ref C) "__getattribute__") (some (some (.builtin "BaseException.__getattribute__"))) && He.eqO (PySem.W.findIn K (.ref C) "__getattr__") (some none) &&
  decide (PySem.W.subIn K (.ref C) (.type "BaseException") = some true) && PySem.W.hasDictIn K C && He.eqO (PySem.W.findIn K (.ref C) "__class__") (some (some (.builtin "object.__class__"))) &&
  He.eqO (PySem.W.specialIn K (.builtin "object.__class__") "__get__") (some (some (.builtin "getset_descriptor.__get__"))) && decide (PySem.W.takesIn K (.builtin "object.__class__") = some true) && decide (PySem.W.mroIn K C (.type "object") = some true)
theorem exccB_ok {C : Addr} (h : exccB K C = true) : ExcC K C ∧ XfC K C := by
  unfold exccB at h
  simp only [Bool.and_eq_true, decide_eq_true_eq] at h
  obtain ⟨⟨⟨⟨⟨⟨⟨h1, h2⟩, h3⟩, h4⟩, h5⟩, h6⟩, h7⟩, h8⟩ := h
  exact ⟨⟨He.eqO_ok h1, He.eqO_ok h2, h3, h4, He.eqO_ok h5, He.eqO_ok h6, h7, h8⟩, ⟨He.eqO_ok h1, He.eqO_ok h2, h3, h4⟩⟩
end
end Tk
/- Fact2 -/
set_option Elab.async false
set_option linter.all false
set_option maxRecDepth 100000
set_option maxHeartbeats 1000000
namespace Tk
open PySem PySem.Spec PyProof.Rows L2
section
variable {K : PySem.W.Frag}
def oexB (K : PySem.W.Frag) (C : Addr) : Bool := (match K.lookup C with
  | some ⟨.type t, _, .cls cd, sl⟩ => (match cd.mro, sl.toList with
    | .ref C' :: bm, [_, _, _, _, some (.builtin n), _] => decide (t = "type") && C' == C && n == "ValueError.__new__" && cd.hasDict && !cd.hasDel && PySem.HandSPX.refsVE bm
    | _, _ => false)
  | _ => false) && He.eqO (PySem.W.findIn K (.ref C) "__setattr__") (some (some (.builtin "object.__setattr__"))) && decide (PySem.W.subIn K (.ref C) (.type "BaseException") = some true) && decide (PySem.W.typeIn K (.ref C) = some (.type "type")) && PySem.W.keepIn K (.ref C)
theorem oexB_ok {C : Addr} (h : oexB K C = true) : OexC K C := by
  unfold oexB at h
  simp only [Bool.and_eq_true, decide_eq_true_eq] at h
  obtain ⟨⟨⟨⟨h1, h2⟩, h3⟩, h4⟩, h5⟩ := h
  refine ⟨?_, He.eqO_ok h2, h3, h4, h5⟩
  split at h1
  · rename_i t dd cd sl ho
    split at h1
    · rename_i C' bm k0 k1 k2 k3 n k5 hm hs
      simp only [Bool.and_eq_true, beq_iff_eq, decide_eq_true_eq, Bool.not_eq_true'] at h1
      obtain ⟨⟨⟨⟨⟨rfl, rfl⟩, rfl⟩, hdc⟩, hdel⟩, hv⟩ := h1
      obtain ⟨nm, bs, mro, ns, qn, hd, sn, sub, ab, col, del⟩ := cd
      dsimp only at hm hdel hdc
      subst hm hdel hdc
      have hsl : sl = #[k0, k1, k2, k3, some (.builtin "ValueError.__new__"), k5] := by
        obtain ⟨l⟩ := sl
        simp only at hs
        rw [hs]
      subst hsl
      exact ⟨nm, qn, ns, bs, bm, sn, sub, ab, col, dd, k0, k1, k2, k3, k5, ho, hv⟩
    · cases h1
  · cases h1
end
/-- how positional arguments bind, the arity known -/
theorem binds_of {K : PySem.W.Frag} {x qual : Str} {params : Arguments} {body : List Stmt} {scope : Scope} {f : Addr} {fd : FuncData} {ps : List Str} (F : FunD K x qual params body scope [] [] f fd)
    (h : ∀ (kV doc pm : Value) (an : Option Addr) (cdv ct : Value) (us : List Value), us.length = ps.length → bindArgs (PySem.W.fnOf x qual params body scope .none kV doc pm an cdv ct) ⟨us, []⟩ = pure (ps.zip us)) : L2.Binds K fd ps [] := by
  obtain ⟨oc, od, dV, kV, doc, pm, an, cdv, ct, osl, rfl, lk, hcd, hd, _⟩ := F.ex
  have e : dV = .none := by
    rcases hd with ⟨_, e⟩ | ⟨e, _⟩
    · exact e
    · exact absurd rfl e
  subst e
  exact .all (h kV doc pm an cdv ct)
end Tk
/- Fact3 -/
set_option Elab.async false
set_option linter.all false
set_option maxRecDepth 100000
set_option maxHeartbeats 1000000
namespace Tk
open PySem PySem.Spec PyProof.Rows L2
def allIx {α : Type} (p : Nat → α → Bool) : Nat → List α → Bool
  | _, [] => true
  | i, a :: l => p i a && allIx p (i + 1) l
theorem allIx_ok {α : Type} {p : Nat → α → Bool} : ∀ {l : List α} {i : Nat}, allIx p i l = true → ∀ {j : Nat} {a : α}, l[j]? = some a → p (i + j) a = true
  | [], _, _, _, _, h => by cases h
  | b :: l, i, hp, j, a, h => by
    unfold allIx at hp
    rw [Bool.and_eq_true] at hp
    cases j with
    | zero => cases h; exact hp.1
    | succ j =>
      have := allIx_ok hp.2 (j := j) h
      rwa [show i + 1 + j = i + (j + 1) by omega] at this
/-- what a law's tables are made of -/
structure Tb where
  cnm : Nat → Str
  nm : Nat → Str
  dn : Nat → Str × Option Str
  clT : List Cl
  exs : List Nat
  sup : Nat → Nat → Bool
  iso : Nat → Nat → Bool
  xf : Nat → List Nat
def Tb.ca (t : Tb) (K : PySem.W.Frag) (i : Nat) : Addr := He.ga K (t.cnm i)
def Tb.fa (t : Tb) (K : PySem.W.Frag) (i : Nat) : Addr := He.fAd K (t.dn i)
def clfB (t : Tb) (K : PySem.W.Frag) : Bool := allIx (fun C cl => clxB K (t.ca K C) && PySem.W.makesIn K (t.ca K C) && He.eqO (PySem.W.findIn K (.ref (t.ca K C)) "__init__") (some (some (.ref (t.fa K cl.init)))) && PySem.W.isFn K (.ref (t.fa K cl.init)) && PySem.W.keepIn K (.ref (t.ca K C)) &&
  (cl.ms.all fun q => He.eqO (PySem.W.findIn K (.ref (t.ca K C)) (t.nm q.1)) (some (some (.ref (t.fa K q.2)))) && PySem.W.isFn K (.ref (t.fa K q.2)) && PySem.W.keepIn K (.ref (t.fa K q.2))) &&
  (cl.fl.all fun f => He.eqO (PySem.W.findIn K (.ref (t.ca K C)) (t.nm f)) (some none))) 0 t.clT
def tyB (t : Tb) (K : PySem.W.Frag) : Bool := allIx (fun b _ => (tyT.all fun s => decide (PySem.W.kitOne K (.ref (t.ca K b)) (.type s) = some false)) && (tyL.all fun s => decide (PySem.W.kitOne K (.type s) (.ref (t.ca K b)) = some false)) &&
  allIx (fun c _ => decide (PySem.W.kitOne K (.ref (t.ca K b)) (.ref (t.ca K c)) = some (t.iso b c))) 0 t.clT) 0 t.clT
def xcB (t : Tb) (K : PySem.W.Frag) : Bool := t.exs.all fun x => exccB K (t.ca K x) && (t.exs.all fun c => decide (PySem.W.exmOne K (.ref (t.ca K x)) (.ref (t.ca K c)) = some (t.sup x c)) && decide (PySem.W.kitOne K (.ref (t.ca K x)) (.ref (t.ca K c)) = some (t.sup x c))) &&
  ((t.xf x).all fun f => He.eqO (PySem.W.findIn K (.ref (t.ca K x)) (t.nm f)) (some none))
theorem lookup_in {α : Type} : ∀ {l : List (Nat × α)} {m : Nat} {f : α}, l.lookup m = some f → (m, f) ∈ l
  | [], _, _, h => by cases h
  | (a, b) :: l, m, f, h => by
    rw [List.lookup_cons] at h
    cases q : m == a with
    | true =>
      rw [q] at h
      cases h
      have := beq_iff_eq.mp q
      subst this
      exact List.mem_cons_self
    | false => rw [q] at h; exact List.mem_cons_of_mem _ (lookup_in h)
section
variable {F : Fx} {t : Tb} (hc : F.c.ca = t.ca F.K) (hn : F.c.nm = t.nm) (hf : F.fa = t.fa F.K) (hcl : F.PG.cl = fun i => t.clT[i]?)
include hc hn hf hcl in
theorem clf_of (h : clfB t F.K = true) : ClF F := by
  have key : ∀ C cl, F.PG.cl C = some cl → _ := fun C cl e => allIx_ok h (j := C) (a := cl) (by rw [hcl] at e; exact e)
  refine ⟨fun C cl e => ?_, fun C cl e => ?_, fun C cl m f e hm => ?_, fun C cl f e hm => ?_⟩
  all_goals
    have z := key C cl e
    rw [Nat.zero_add] at z
    simp only [Bool.and_eq_true] at z
    obtain ⟨⟨⟨⟨⟨⟨z1, z2⟩, z3⟩, z4⟩, z5⟩, z6⟩, z7⟩ := z
  · rw [hc, hf]
    exact ⟨z2, He.eqO_ok z3, z4, z5⟩
  · rw [hc]
    exact clxB_ok z1
  · rw [hc, hf, hn]
    have w := List.all_eq_true.mp z6 _ (lookup_in hm)
    simp only [Bool.and_eq_true] at w
    exact ⟨He.eqO_ok w.1.1, w.1.2, w.2⟩
  · rw [hc, hn]
    exact He.eqO_ok (List.all_eq_true.mp z7 _ hm)
include hc hcl in
theorem ty_tab (hi : F.PG.iso = t.iso) (h : tyB t F.K = true) : TyTab F := by
  have key : ∀ b cl, F.PG.cl b = some cl → _ := fun C cl e => allIx_ok h (j := C) (a := cl) (by rw [hcl] at e; exact e)
  refine ⟨fun b cl s e hs => ?_, fun b c cl cl' e e' => ?_, fun c cl s hs e => ?_⟩
  · have z := key b cl e
    rw [Nat.zero_add] at z
    simp only [Bool.and_eq_true] at z
    rw [hc]
    exact of_decide_eq_true (List.all_eq_true.mp z.1.1 s hs)
  · have z := key b cl e
    rw [Nat.zero_add] at z
    simp only [Bool.and_eq_true] at z
    rw [hc, hi]
    have w := allIx_ok z.2 (j := c) (a := cl') (by rw [hcl] at e'; exact e')
    rw [Nat.zero_add] at w
    exact of_decide_eq_true w
  · have z := key c cl e
    rw [Nat.zero_add] at z
    simp only [Bool.and_eq_true] at z
    rw [hc]
    exact of_decide_eq_true (List.all_eq_true.mp z.1.2 s hs)
include hc hn in
theorem xct_of (hs : F.PG.sup = t.sup) (hx : F.PG.xf = t.xf) (hex : ∀ x, t.sup x x = true → x ∈ t.exs) (h : xcB t F.K = true) : XcT F := by
  have key : ∀ x, F.PG.sup x x = true → _ := fun x e => List.all_eq_true.mp h x (hex x (by rw [hs] at e; exact e))
  refine ⟨fun x c e e' => ?_, fun x c e e' => ?_, fun x e => ?_, fun x e => ?_, fun x f e hm => ?_⟩
  all_goals
    have z := key x e
    simp only [Bool.and_eq_true] at z
    rw [hc]
  · rw [hs]
    have w := List.all_eq_true.mp z.1.2 c (hex c (by rw [hs] at e'; exact e'))
    rw [Bool.and_eq_true] at w
    exact of_decide_eq_true w.1
  · rw [hs]
    have w := List.all_eq_true.mp z.1.2 c (hex c (by rw [hs] at e'; exact e'))
    rw [Bool.and_eq_true] at w
    exact of_decide_eq_true w.2
  · exact (exccB_ok z.1.1).1
  · exact (exccB_ok z.1.1).2
  · rw [hn]
    exact He.eqO_ok (List.all_eq_true.mp z.2 f (by rw [hx] at hm; exact hm))
end
end Tk
/- Fact4 -/
set_option Elab.async false
set_option linter.all false
set_option maxRecDepth 100000
set_option maxHeartbeats 1000000
namespace Tk
open PySem PySem.Spec PyProof.Rows L2
/-! ### a written dict with text keys -/
def dctBs (K : PySem.W.Frag) : List (D × D) → List DictEntry → Bool
  | [], es => es.isEmpty
  | (k, d) :: r, es => (match es with
    | e :: es => (match k, e.key with | .str s, .str x _ => s == unS x | _, _ => false) && repB K d e.val && dctBs K r es
    | [] => false)
def keysS : List (D × D) → List (List Nat)
  | [] => []
  | (k, _) :: r => (match k with | .str s => [s] | _ => []) ++ keysS r
theorem dctBs_ok {P : Program} {w : World} {K : PySem.W.Frag} : ∀ {ds : List (D × D)} {es : List DictEntry}, dctBs K ds es = true → ∃ (kvs : List (Key × V)) (vs : List (Key × Value)), KV kvs vs ∧ Pairs (mixKind P w) es vs ∧ vs.map (·.1) = (keysS ds).map (fun s => Sum.inr (mkS s)) ∧ kvs.length = es.length ∧ ∀ G H, RepK P w K G H kvs ds
  | [], es, h => by
    have : es = [] := by cases es <;> first | rfl | cases h
    subst this
    exact ⟨[], [], .nil, .nil, rfl, rfl, fun _ _ => .nil⟩
  | (k, d) :: r, es, h => by
    unfold dctBs at h
    split at h
    · rename_i e es
      rw [Bool.and_eq_true, Bool.and_eq_true] at h
      obtain ⟨⟨h1, h2⟩, h3⟩ := h
      obtain ⟨v, r1, r2⟩ := repB_ok d _ h2
      obtain ⟨kvs, vs, a1, a2, a3, a4, a5⟩ := dctBs_ok (P := P) (w := w) h3
      split at h1
      · rename_i s x t e1
        obtain rfl : s = unS x := by simpa using h1
        refine ⟨(Sum.inr x, v) :: kvs, (Sum.inr x, e.val) :: vs, .cons ⟨rfl, r1⟩ a1, .cons (by rw [e1]; exact keyIs_str x t) rfl a2, ?_, by simp [a4], fun G H => .cons (r2 P w G H) (a5 G H)⟩
        show Sum.inr x :: vs.map (·.1) = _
        rw [a3]
        rfl
      · cases h1
    · cases h
theorem keysOf_lit {P : Program} {w : World} {es : Array DictEntry} (h : PySem.W.KeysLit w.params es.toList) : KeysOf (mixKind P w) es := fun e he => by
  obtain ⟨x, t, e1, e2⟩ := PySem.W.KeysLit.all h e (Array.mem_toList_iff.mpr he)
  exact ⟨Sum.inr x, by rw [e1]; exact keyIs_str x t, e2⟩
theorem kd_of {P : Program} {w : World} {K : PySem.W.Frag} {a : Addr} {es : Array DictEntry} {n : Nat} {ds : List (D × D)} (k : KDict K w a es n) (h : dctBs K ds es.toList = true) (hnd : (keysS ds).Nodup) (hz : es.size ≤ sizeLine) (G : Gh) (H : Hp) : RepD P w K G H (.ref a) (.dct ds) := by
  obtain ⟨kvs, vs, a1, a2, a3, a4, a5⟩ := dctBs_ok (P := P) (w := w) h
  refine .dct (.inr ⟨k.low, by rw [a4]; simpa using hz, ⟨_, k.at_, rfl⟩, vs, a1, fun hp hK => ?_⟩) (a5 G H)
  refine ⟨_, es, n, hK _ _ k.at_, ⟨rfl, rfl, rfl⟩, rfl, keysOf_lit k.lit, a2, ?_⟩
  rw [a3]
  exact List.pairwise_map.mpr (hnd.imp fun {x y} h e => h (by
    have e2 : mkS x = mkS y := Sum.inr.inj e
    have e3 := congrArg unS e2
    exact e3))
end Tk
/- Fact5 -/
set_option Elab.async false
set_option linter.all false
set_option maxRecDepth 100000
set_option maxHeartbeats 1000000
namespace Tk
open PySem PySem.Spec PyProof.Rows L2
theorem repds_ints {P : Program} {w : World} {K : PySem.W.Frag} {G : Gh} {H : Hp} : ∀ ns : List Int, RepDs P w K G H (ns.map V.int) (ns.map D.int)
  | [] => .nil
  | n :: ns => .cons (.int n) (repds_ints ns)
/-- the law's promise, from its answer in the core -/
theorem law_sp {F : Fx} {cf : CallFn} {ix : Nat} {a : Addr} {H : Hp} {ns : List Int} {ob : List Ob} {E : XK} (hS : SqL F.K H a (ns.map V.int)) (hm : cf ix [.scr (ns.map .int)] [] = .ok (.val (.bl true)) ob) : spF F cf ix [.ref a] H (fun v _ => v = .bl true) E := by
  refine ⟨⟨fun x => x = a ∧ H a ≠ none, []⟩, [.scr (ns.map .int)], [], [], .cons ?_ .nil, ⟨[], [], .nil, .nil, List.nodup_nil, (fun _ h => by cases h), (fun x h => by rw [h.1]; exact h.2)⟩, ?_⟩
  · rcases hS with hS | hS
    · refine .scr (.inl ⟨⟨rfl, fun e => ?_⟩, hS⟩) (repds_ints ns)
      rcases hS with h | ⟨o, h⟩ <;> (rw [e] at h; cases h)
    · exact .scr (.inr hS) (repds_ints ns)
  · rw [hm]
    intro V H' G' le rp
    obtain ⟨f, r⟩ := rp.head
    exact rm_bl r
end Tk
/- Fact6 -/
set_option Elab.async false
set_option linter.all false
set_option maxRecDepth 100000
set_option maxHeartbeats 2000000
namespace Tk
open PySem PySem.Spec PyProof.Rows L2
/-- a law's end, what is let out by the world -/
theorem walk_w {l : PySem.W.OpenLaw} {n k : Nat} {q : Program} {loose : List Str} {XP : (Str → Option Value) → Heap → Prop} {YP : World → Heap → Prop} {d : DefRec} {CX : World → CXT} {x : Str}
    (hn : l.most = some n) (hn2 : n ≤ sizeLine) (hdf : d.params.defaults = []) (hr : Room k callerA)
    (F : ∀ (w : World) (mg : Str → Option Value) (fa : Addr) (h : Heap), YP w h → h.Ns mainGlobals mg → mg d.name = some (.ref fa) →
      ∃ (K : PySem.W.Frag) (fd : FuncData) (sp : Sp), K.In h ∧ (∀ (s : Shared) (u : Value), BindsTo s fd ⟨[u], []⟩ [(x, u)]) ∧
        (∀ (H : Hp) (a : Addr) (ns : List Int), ns.length ≤ n → Only H → SqL K H a (ns.map V.int) → sp [.ref a] H (fun v _ => v = .bl true) fun _ _ _ => False) ∧
        ∀ base : Heap, K.In base → base.Ns mainGlobals mg → FnOk l.prog w K mg base (CX w) k fa fd [x] sp)
    (hCX : ∀ (w : World) (H : Hp) (s : Shared) (e : Value) (s' : Shared), CX w [] H s (fun _ _ _ => False) e s' → False) :
    PySem.W.WalkO q loose XP YP l.row.toRowW d [] (fun f vs => PySem.call f vs) := by
  refine Att.attach_call hn hdf fun w s₀ s₁ mg mb fa o pm cd doc a vs ns G Y ho hd hcd hmg hobj hints hlen hg => ?_
  obtain ⟨K, fd, sp, KX, hb, hsp, hF⟩ := F w mg fa _ Y G.T.g hmg
  exact law_call KX G.T.g G.T.b G.T.builtins G.T.nolimit hg hobj hints (Nat.le_trans hlen hn2) hr hF hb (fun H hO hS => hsp H a ns hlen hO hS) fun H e s' => hCX w H s₁ e s'
theorem cx_false (P : Program) (w : World) (H : Hp) (s : Shared) (e : Value) (s' : Shared) : L2.CX P w [] H s (fun _ _ _ => False) e s' → False := fun ⟨_, _, _, _, _, _, _, _, _, _, _, _, z⟩ => z
/-- all the Bools of a law's head -/
def exB (t : Tb) (glT : List D) (conL dctL : List (Str × Nat)) (xin : List Nat) (K : PySem.W.Frag) : Bool := clfB t K && tyB t K && xcB t K &&
  (xin.all fun x => oexB K (t.ca K x) && He.eqO (PySem.W.findIn K (.ref (t.ca K x)) "__init__") (some (some (.ref (He.ma K (t.ca K x) "__init__")))) && decide (PySem.W.typeIn K (.ref (He.ma K (t.ca K x) "__init__")) = some (.type "function"))) &&
  (conL.all fun q => match PySem.W.nsIn K mainGlobals q.1, glT[q.2]? with
    | some (some u), some d => repB K d u
    | _, _ => false) &&
  (dctL.all fun q => match PySem.W.nsIn K mainGlobals q.1, glT[q.2]? with
    | some (some (.ref a)), some (.dct ds) => (match K.lookup a with
      | some ⟨_, _, .dict es _, _⟩ => dctBs K ds es.toList && decide (es.size ≤ sizeLine) && decide (keysS ds).Nodup && a == He.ga K q.1
      | _ => false)
    | _, _ => false)
end Tk
/- Fact7 -/
set_option Elab.async false
set_option linter.all false
set_option maxRecDepth 100000
set_option maxHeartbeats 1000000
namespace Tk
open PySem PySem.Spec PyProof.Rows L2
section
variable {t : Tb} {glT : List D} {conL dctL : List (Str × Nat)} {xin : List Nat} {K : PySem.W.Frag} (h : exB t glT conL dctL xin K = true)
include h
theorem ex_clf : clfB t K = true := by
  unfold exB at h
  simp only [Bool.and_eq_true] at h
  exact h.1.1.1.1.1
theorem ex_ty : tyB t K = true := by
  unfold exB at h
  simp only [Bool.and_eq_true] at h
  exact h.1.1.1.1.2
theorem ex_xc : xcB t K = true := by
  unfold exB at h
  simp only [Bool.and_eq_true] at h
  exact h.1.1.1.2
theorem ex_xin {x : Nat} (hx : x ∈ xin) : OexC K (t.ca K x) ∧ PySem.W.findIn K (.ref (t.ca K x)) "__init__" = some (some (.ref (He.ma K (t.ca K x) "__init__"))) ∧ PySem.W.typeIn K (.ref (He.ma K (t.ca K x) "__init__")) = some (.type "function") := by
  unfold exB at h
  simp only [Bool.and_eq_true] at h
  have z := List.all_eq_true.mp h.1.1.2 x hx
  simp only [Bool.and_eq_true] at z
  exact ⟨oexB_ok z.1.1, He.eqO_ok z.1.2, of_decide_eq_true z.2⟩
theorem ex_con {x : Str} {g : Nat} (hx : (x, g) ∈ conL) : ∃ u v d, glT[g]? = some d ∧ PySem.W.nsIn K mainGlobals x = some (some u) ∧ RelV v u ∧ ∀ P w G H, RepD P w K G H v d := by
  unfold exB at h
  simp only [Bool.and_eq_true] at h
  have z := List.all_eq_true.mp h.1.2 _ hx
  split at z
  · rename_i u d e1 e2
    obtain ⟨v, r1, r2⟩ := repB_ok _ _ z
    exact ⟨u, v, d, e2, e1, r1, r2⟩
  · cases z
theorem ex_dct {w : World} {x : Str} {g : Nat} (hx : (x, g) ∈ dctL) (hk : ∃ es n, KDict K w (He.ga K x) es n) : ∃ u v d, glT[g]? = some d ∧ PySem.W.nsIn K mainGlobals x = some (some u) ∧ RelV v u ∧ ∀ P G H, RepD P w K G H v d := by
  unfold exB at h
  simp only [Bool.and_eq_true] at h
  have z := List.all_eq_true.mp h.2 _ hx
  split at z
  · rename_i a ds e1 e2
    split at z
    · rename_i es n sl e3
      simp only [Bool.and_eq_true, decide_eq_true_eq, beq_iff_eq] at z
      obtain ⟨⟨⟨z1, z2⟩, z3⟩, z4⟩ := z
      obtain ⟨es', n', kd⟩ := hk
      rw [← z4] at kd
      have e4 := kd.at_
      rw [e3] at e4
      cases e4
      exact ⟨.ref a, .ref a, .dct ds, e2, e1, rfl, fun P G H => kd_of kd z1 z3 z2 G H⟩
    · cases z
  · cases z
end
end Tk
/- Fact8 -/
set_option Elab.async false
set_option linter.all false
set_option maxRecDepth 100000
set_option maxHeartbeats 1000000
namespace Tk
open PySem PySem.Spec PyProof.Rows L2
theorem lookup_inS {α : Type} : ∀ {l : List (Str × α)} {m : Str} {f : α}, l.lookup m = some f → (m, f) ∈ l
  | [], _, _, h => by cases h
  | (a, b) :: l, m, f, h => by
    rw [List.lookup_cons] at h
    cases q : m == a with
    | true =>
      rw [q] at h
      cases h
      have := beq_iff_eq.mp q
      subst this
      exact List.mem_cons_self
    | false => rw [q] at h; exact List.mem_cons_of_mem _ (lookup_inS h)
/-- the fixed facts of a law, from its tables -/
def Fof (PG : Prog) (t : Tb) (inj : ∀ i j, t.nm i = t.nm j → i = j) (P : Program) (w : World) (K : PySem.W.Frag) (mg : Str → Option Value) (base : Heap) : Fx := ⟨P, w, K, mg, ⟨t.nm, t.ca K⟩, PG, inj, base, t.fa K⟩
section
variable {PG : Prog} {t : Tb} {inj : ∀ i j, t.nm i = t.nm j → i = j} {P : Program} {w : World} {K : PySem.W.Frag} {mg : Str → Option Value} {base hp : Heap} {nm : Nm} {glT : List D} {conL dctL : List (Str × Nat)} {xin : List Nat} {fa : List He.Fa} {fnD : List He.DefD} {ts : List He.Tab}
theorem nf_of (c : He.SaysX fa fnD ts [] (exB t glT conL dctL xin) w hp K) (X : K.In hp) (G : hp.Ns mainGlobals mg) (hnm : t.nm = nm.nm) (hcl : PG.cl = fun i => t.clT[i]?) (hgl : PG.gl = fun i => glT[i]?) (hiso : PG.iso = t.iso)
    (h1 : ∀ q ∈ nm.gn, q ∈ conL ∨ (q ∈ dctL ∧ ∃ (i : Nat) (ks : List Str), ts[i]? = some (fun K => He.ga K q.1, ks))) (h2 : ∀ q ∈ nm.fn, He.Fa.glo q.1 ∈ fa ∧ t.dn q.2 = (q.1, none) ∧ (PG.fn q.2).isSome = true)
    (h3 : ∀ q ∈ nm.cn, He.Fa.glo q.1 ∈ fa ∧ t.cnm q.2 = q.1 ∧ ∃ cl, PG.cl q.2 = some cl ∧ (PG.fn cl.init).isSome = true) (h4 : ∀ x ∈ bnL, He.Fa.free x ∈ fa)
    (h5 : ∀ C cl m f, PG.cl C = some cl → cl.ms.lookup m = some f → ∃ Fn, PG.fn f = some Fn) : Nf (Fof PG t inj P w K mg base) nm where
  nmE := hnm
  gn := fun x g hx => by
    have key : ∃ u v d, glT[g]? = some d ∧ PySem.W.nsIn K mainGlobals x = some (some u) ∧ RelV v u ∧ ∀ P G H, RepD P w K G H v d := by
      rcases h1 _ (lookup_inS hx) with z | ⟨z, i, ks, e⟩
      · obtain ⟨u, v, d, a1, a2, a3, a4⟩ := ex_con c.more z
        exact ⟨u, v, d, a1, a2, a3, fun P G H => a4 P w G H⟩
      · exact ex_dct c.more z (c.t.tab i e)
    obtain ⟨u, v, d, a1, a2, a3, a4⟩ := key
    exact ⟨u, v, d, by show PG.gl g = some d; rw [hgl]; exact a1, PySem.W.mg_of X G a2, a3, fun G H => a4 P G H⟩
  fn := fun x f hx => by
    obtain ⟨a1, a2, a3⟩ := h2 _ (lookup_inS hx)
    refine ⟨?_, Option.isSome_iff_exists.mp a3⟩
    have e := He.glo_ok X G (He.SaysD.facts c.t.d a1)
    show mg x = some (.ref (t.fa K f))
    rw [e]
    unfold Tb.fa
    rw [a2]
    rfl
  cn := fun x C hx => by
    obtain ⟨a1, a2, cl, a3, a4⟩ := h3 _ (lookup_inS hx)
    obtain ⟨Fn, a5⟩ := Option.isSome_iff_exists.mp a4
    refine ⟨?_, cl, Fn, a3, a5⟩
    have e := He.glo_ok X G (He.SaysD.facts c.t.d a1)
    show mg x = some (.ref (t.ca K C))
    rw [e]
    unfold Tb.ca
    rw [a2]
  bn := fun x hx => He.free_ok X G (He.SaysD.facts c.t.d (h4 x hx))
  tt := ty_tab (t := t) rfl hcl hiso (ex_ty c.more)
  cf := clf_of (t := t) rfl rfl rfl hcl (ex_clf c.more)
  ms := h5
end
end Tk
/- Fact9 -/
set_option Elab.async false
set_option linter.all false
set_option maxRecDepth 100000
set_option maxHeartbeats 1000000
namespace Tk
open PySem PySem.Spec PyProof.Rows L2
/-- how a def of the text binds n arguments -/
def Bd (d : He.DefD) (ps : List Str) : Prop := ∀ (kV doc pm : Value) (an : Option Addr) (cdv ct : Value) (us : List Value), us.length = ps.length → bindArgs (PySem.W.fnOf d.name d.qual d.params d.body d.scope .none kV doc pm an cdv ct) ⟨us, []⟩ = pure (ps.zip us)
/-- a def of the core and its text -/
structure Dm (nm : Nm) (Fn : Fn) (d : He.DefD) (N ps : List Str) : Prop where
  dfl : d.dfl = []
  kwd : d.kwd = []
  sc : FnScope N ps d.scope
  bd : Bd d ps
  ns : N.length = Fn.ns
  np : ps.length = Fn.np
  ck : chkSs ⟨N, d.scope, fun _ => true, nm⟩ Fn.body d.body = true
/-- an exception class's __init__ and its text -/
structure Xm (nm : Nm) (fs : List Nat) (d : He.DefD) (N : List Str) : Prop where
  name : d.name = "__init__"
  dfl : d.dfl = []
  kwd : d.kwd = []
  sc : FnScope N N d.scope
  bd : Bd d N
  ln : N.length = fs.length + 1
  few : fs.length ≤ 900
  ne : fs ≠ []
  nd : fs.Nodup
  ck : xiB ⟨N, d.scope, fun _ => true, nm⟩ fs 1 d.body = true
section
variable {PG : Prog} {t : Tb} {inj : ∀ i j, t.nm i = t.nm j → i = j} {P : Program} {w : World} {K : PySem.W.Frag} {mg : Str → Option Value} {base hp : Heap} {nm : Nm} {glT : List D} {conL dctL : List (Str × Nat)} {xin : List Nat} {fa : List He.Fa} {fnD : List He.DefD} {ts : List He.Tab}
theorem funD_at (c : He.SaysX fa fnD ts [] (exB t glT conL dctL xin) w hp K) {d : He.DefD} (hd : d ∈ fnD) (h1 : d.dfl = []) (h2 : d.kwd = []) : ∃ fd, FunD K d.name d.qual d.params d.body d.scope [] [] (He.fAd K d.at_) fd := by
  obtain ⟨fd, F⟩ := He.SaysD.defs c.t.d hd
  have e1 : d.dvs K = [] := by unfold He.DefD.dvs; rw [h1]; rfl
  have e2 : d.kws K = [] := by unfold He.DefD.kws; rw [h2]; rfl
  rw [e1, e2] at F
  exact ⟨fd, F⟩
theorem fnf_of (c : He.SaysX fa fnD ts [] (exB t glT conL dctL xin) w hp K) (h8 : ∀ f Fn, PG.fn f = some Fn → ∃ d ∈ fnD, d.at_ = t.dn f ∧ ∃ N ps, Dm nm Fn d N ps) : ∀ f Fn, PG.fn f = some Fn → FnF (Fof PG t inj P w K mg base) nm f Fn := fun f Fn hf => by
  obtain ⟨d, hd, ea, N, ps, m⟩ := h8 f Fn hf
  obtain ⟨fd, F⟩ := funD_at c hd m.dfl m.kwd
  rw [ea] at F
  exact ⟨d.name, d.qual, d.params, d.body, d.scope, fd, N, ps, F, m.sc, binds_of F m.bd, m.ns, m.np, m.ck⟩
theorem nfx_of (c : He.SaysX fa fnD ts [] (exB t glT conL dctL xin) w hp K) (X : K.In hp) (G : hp.Ns mainGlobals mg) (NF : Nf (Fof PG t inj P w K mg base) nm) (hsup : PG.sup = t.sup) (hxf : PG.xf = t.xf) (hex : ∀ x, t.sup x x = true → x ∈ t.exs)
    (h6 : ∀ q ∈ nm.xn, He.Fa.glo q.1 ∈ fa ∧ t.cnm q.2 = q.1 ∧ PG.sup q.2 q.2 = true) (h7 : ∀ x ∈ nm.xr, x ∈ xin ∧ PG.sup x x = true ∧ ∃ d ∈ fnD, d.at_ = (t.cnm x, some ("__init__" : Str)) ∧ ∃ N, Xm nm (PG.xf x) d N) : NfX (Fof PG t inj P w K mg base) nm := by
  have XT : XcT (Fof PG t inj P w K mg base) := xct_of (t := t) rfl rfl hsup hxf hex (ex_xc c.more)
  refine ⟨fun y x hx => ?_, fun x hx => ?_, XT⟩
  · obtain ⟨a1, a2, a3⟩ := h6 _ (lookup_inS hx)
    refine ⟨?_, a3⟩
    have e := He.glo_ok X G (He.SaysD.facts c.t.d a1)
    show mg y = some (.ref (t.ca K x))
    rw [e]
    unfold Tb.ca
    rw [a2]
  · obtain ⟨a1, a2, d, hd, ea, N, m⟩ := h7 x hx
    obtain ⟨fd, F⟩ := funD_at c hd m.dfl m.kwd
    obtain ⟨b1, b2, b3⟩ := ex_xin c.more a1
    have eF : He.fAd K d.at_ = He.ma K (t.ca K x) "__init__" := by rw [ea]; rfl
    have bd := binds_of F m.bd
    rw [eF] at F
    rw [m.name] at F
    exact xc_init NF XT a2 b1 b2 b3 F m.sc bd m.ln m.few m.ne m.nd m.ck
end
end Tk
/- Fact10 -/
set_option Elab.async false
set_option linter.all false
set_option maxRecDepth 100000
set_option maxHeartbeats 1000000
namespace Tk
open PySem PySem.Spec PyProof.Rows L2
/-- names by place; past the list texts of zeros -/
def nmAt (l : List Str) (i : Nat) : Str := l.getD i ⟨(List.replicate (i + 1000) 0).toArray⟩
theorem nmAt_inj {l : List Str} (hnd : l.Nodup) (hl : ∀ x ∈ l, x.length < 1000) : ∀ i j, nmAt l i = nmAt l j → i = j := by
  have lenR : ∀ n : Nat, (⟨(List.replicate n 0).toArray⟩ : Str).length = n := fun n => by
    show (List.replicate n 0).toArray.size = n
    simp
  intro i j e
  unfold nmAt at e
  rw [List.getD_eq_getElem?_getD, List.getD_eq_getElem?_getD] at e
  by_cases hi : i < l.length
  · by_cases hj : j < l.length
    · rw [List.getElem?_eq_getElem hi, List.getElem?_eq_getElem hj] at e
      exact (List.getElem_inj hnd).mp e
    · rw [List.getElem?_eq_getElem hi, List.getElem?_eq_none (Nat.le_of_not_lt hj)] at e
      have h1 := hl _ (List.getElem_mem hi)
      have e' : l[i] = ⟨(List.replicate (j + 1000) 0).toArray⟩ := e
      rw [e', lenR] at h1
      omega
  · by_cases hj : j < l.length
    · rw [List.getElem?_eq_none (Nat.le_of_not_lt hi), List.getElem?_eq_getElem hj] at e
      have h1 := hl _ (List.getElem_mem hj)
      have e' : ⟨(List.replicate (i + 1000) 0).toArray⟩ = l[j] := e
      rw [← e', lenR] at h1
      omega
    · rw [List.getElem?_eq_none (Nat.le_of_not_lt hi), List.getElem?_eq_none (Nat.le_of_not_lt hj)] at e
      have e' : (⟨(List.replicate (i + 1000) 0).toArray⟩ : Str) = ⟨(List.replicate (j + 1000) 0).toArray⟩ := e
      have := congrArg Str.length e'
      rw [lenR, lenR] at this
      omega
/-- the defs, one behind the other -/
inductive DmAll (nm : Nm) : List Fn → List He.DefD → Prop
  | nil {ds : List He.DefD} : DmAll nm [] ds
  | cons {Fn : Fn} {d : He.DefD} {N ps : List Str} {fs : List Tk.Fn} {ds : List He.DefD} : Dm nm Fn d N ps → DmAll nm fs ds → DmAll nm (Fn :: fs) (d :: ds)
theorem DmAll.at_ {nm : Nm} : ∀ {fs : List Fn} {ds : List He.DefD} {i : Nat} {Fn : Fn}, DmAll nm fs ds → fs[i]? = some Fn → ∃ d, ds[i]? = some d ∧ ∃ N ps, Dm nm Fn d N ps
  | _, _, 0, _, .cons a _, e => by cases e; exact ⟨_, rfl, _, _, a⟩
  | _, _, i + 1, _, .cons _ b, e => by
    obtain ⟨d, h1, h2⟩ := DmAll.at_ (i := i) b e
    exact ⟨d, h1, h2⟩
theorem scope_by {N P : List Str} {sc : Scope} (h : C8.scC N P sc = true) : FnScope N P sc := C8.fnScope_by h
end Tk
/- Fact11 -/
set_option Elab.async false
set_option linter.all false
set_option maxRecDepth 100000
set_option maxHeartbeats 1000000
namespace Tk
open PySem PySem.Spec PyProof.Rows L2
theorem h8_of {nm : Nm} {fnT : List Fn} {fnD : List He.DefD} {dnL : List (Str × Option Str)} {z : Str × Option Str} (hA : DmAll nm fnT fnD) (he : (fnD.map (·.at_)).take fnT.length = dnL) :
    ∀ f Fn, fnT[f]? = some Fn → ∃ d ∈ fnD, d.at_ = dnL.getD f z ∧ ∃ N ps, Dm nm Fn d N ps := fun f Fn e => by
  obtain ⟨d, h1, h2⟩ := hA.at_ e
  refine ⟨d, List.mem_of_getElem? h1, ?_, h2⟩
  obtain ⟨hf, _⟩ := List.getElem?_eq_some_iff.mp e
  have e1 : dnL[f]? = some d.at_ := by
    rw [← he, List.getElem?_take_of_lt hf, List.getElem?_map, h1]
    rfl
  rw [List.getD_eq_getElem?_getD, e1]
  rfl
/-- the law's last def, from its answer -/
theorem law_fn {PG : Prog} {t : Tb} {inj : ∀ i j, t.nm i = t.nm j → i = j} {P : Program} {w : World} {K : PySem.W.Frag} {mg : Str → Option Value} {base hp : Heap} {nm : Nm} {glT : List D} {conL dctL : List (Str × Nat)} {xin : List Nat} {fa : List He.Fa} {fnD : List He.DefD} {ts : List He.Tab} {n ix : Nat} {Fl : Fn} {d : He.DefD} {N ps : List Str}
    (c : He.SaysX fa fnD ts [] (exB t glT conL dctL xin) w hp K) (NF : Nf (Fof PG t inj P w K mg base) nm) (NX : NfX (Fof PG t inj P w K mg base) nm)
    (FN : ∀ f Fn, PG.fn f = some Fn → FnF (Fof PG t inj P w K mg base) nm f Fn) (hl : PG.fn ix = some Fl) (hd : d ∈ fnD) (ha : d.at_ = t.dn ix) (m : Dm nm Fl d N ps) :
    ∃ fd, FnOk P w K mg base (L2.CX P w) (n + 3) (t.fa K ix) fd ps (spF (Fof PG t inj P w K mg base) (callN PG (n + 1)).1 ix) ∧ L2.Binds K fd ps [] := by
  obtain ⟨fd, Fd⟩ := funD_at c hd m.dfl m.kwd
  rw [ha] at Fd
  obtain ⟨L1, L0⟩ := lv_all NF NX FN n
  exact ⟨fd, fn_step (F := Fof PG t inj P w K mg base) NF NX hl Fd m.sc m.ns m.np m.ck L1 L0, binds_of Fd m.bd⟩
end Tk
/- Fact12 -/
set_option Elab.async false
set_option linter.all false
set_option maxRecDepth 100000
set_option maxHeartbeats 1000000
namespace Tk
open PySem PySem.Spec PyProof.Rows L2
def gloIn (x : Str) : List He.Fa → Bool
  | [] => false
  | .glo y :: r => x == y || gloIn x r
  | _ :: r => gloIn x r
def freeIn (x : Str) : List He.Fa → Bool
  | [] => false
  | .free y :: r => x == y || freeIn x r
  | _ :: r => freeIn x r
theorem gloIn_ok {x : Str} : ∀ {l : List He.Fa}, gloIn x l = true → He.Fa.glo x ∈ l
  | f :: r, h => by
    cases f with
    | glo y =>
      unfold gloIn at h
      rw [Bool.or_eq_true] at h
      rcases h with h | h
      · rw [beq_iff_eq.mp h]; exact List.mem_cons_self
      · exact List.mem_cons_of_mem _ (gloIn_ok h)
    | _ => exact List.mem_cons_of_mem _ (gloIn_ok h)
theorem freeIn_ok {x : Str} : ∀ {l : List He.Fa}, freeIn x l = true → He.Fa.free x ∈ l
  | f :: r, h => by
    cases f with
    | free y =>
      unfold freeIn at h
      rw [Bool.or_eq_true] at h
      rcases h with h | h
      · rw [beq_iff_eq.mp h]; exact List.mem_cons_self
      · exact List.mem_cons_of_mem _ (freeIn_ok h)
    | _ => exact List.mem_cons_of_mem _ (freeIn_ok h)
/-- the lists of a law fit, as one Bool -/
def listsB (fnT : List Fn) (clT : List Cl) (supT : List (Nat × Nat)) (t : Tb) (nm : Nm) (fa : List He.Fa) (conL dctL : List (Str × Nat)) (xin : List Nat) : Bool :=
  (nm.gn.all fun q => conL.elem q || dctL.elem q) && (nm.fn.all fun q => gloIn q.1 fa && decide (t.dn q.2 = (q.1, none)) && (fnT[q.2]?).isSome) &&
  (nm.cn.all fun q => gloIn q.1 fa && decide (t.cnm q.2 = q.1) && (match clT[q.2]? with | some cl => (fnT[cl.init]?).isSome | none => false)) && (bnL.all fun x => freeIn x fa) &&
  (clT.all fun cl => cl.ms.all fun q => (fnT[q.2]?).isSome) && (nm.xn.all fun q => gloIn q.1 fa && decide (t.cnm q.2 = q.1) && supT.elem (q.2, q.2)) && (nm.xr.all fun x => xin.elem x && supT.elem (x, x)) && (supT.all fun p => t.exs.elem p.1)
section
variable {fnT : List Fn} {clT : List Cl} {glT : List D} {supT : List (Nat × Nat)} {xf : Nat → List Nat} {t : Tb} {inj : ∀ i j, t.nm i = t.nm j → i = j} {P : Program} {w : World} {K : PySem.W.Frag} {mg : Str → Option Value} {base hp : Heap} {nm : Nm} {conL dctL : List (Str × Nat)} {xin : List Nat} {fa : List He.Fa} {fnD : List He.DefD} {ts : List He.Tab} {dnL : List (Str × Option Str)} {z : Str × Option Str}
/-- the program of a law's tables -/
def pgOf (fnT : List Fn) (clT : List Cl) (glT : List D) (supT : List (Nat × Nat)) (xf : Nat → List Nat) : Prog := ⟨fun i => fnT[i]?, fun i => clT[i]?, fun i => glT[i]?, fun a b => supT.elem (a, b), fun a b => a == b, xf⟩
theorem facts_of (c : He.SaysX fa fnD ts [] (exB t glT conL dctL xin) w hp K) (X : K.In hp) (G : hp.Ns mainGlobals mg) (hL : listsB fnT clT supT t nm fa conL dctL xin = true) (hnm : t.nm = nm.nm) (hclT : t.clT = clT) (hsup : t.sup = fun a b => supT.elem (a, b)) (hiso : t.iso = fun a b => a == b) (hxf : t.xf = xf)
    (hd : ∀ q ∈ dctL, ∃ (i : Nat) (ks : List Str), ts[i]? = some (fun K => He.ga K q.1, ks)) (hA : DmAll nm fnT fnD) (he : (fnD.map (·.at_)).take fnT.length = dnL) (hdn : t.dn = fun i => dnL.getD i z)
    (hx : ∀ x ∈ nm.xr, ∃ d ∈ fnD, d.at_ = (t.cnm x, some ("__init__" : Str)) ∧ ∃ N, Xm nm (xf x) d N) :
    Nf (Fof (pgOf fnT clT glT supT xf) t inj P w K mg base) nm ∧ NfX (Fof (pgOf fnT clT glT supT xf) t inj P w K mg base) nm ∧ ∀ f Fn, (pgOf fnT clT glT supT xf).fn f = some Fn → FnF (Fof (pgOf fnT clT glT supT xf) t inj P w K mg base) nm f Fn := by
  unfold listsB at hL
  simp only [Bool.and_eq_true, List.all_eq_true] at hL
  obtain ⟨⟨⟨⟨⟨⟨⟨l1, l2⟩, l3⟩, l4⟩, l5⟩, l6⟩, l7⟩, l8⟩ := hL
  have NF : Nf (Fof (pgOf fnT clT glT supT xf) t inj P w K mg base) nm := by
    refine nf_of c X G hnm (by rw [hclT]; rfl) rfl (by rw [hiso]; rfl) (fun q hq => ?_) (fun q hq => ?_) (fun q hq => ?_) (fun x hx => freeIn_ok (l4 x hx)) (fun C cl m f h1 h2 => ?_)
    · have := l1 q hq
      rw [Bool.or_eq_true] at this
      rcases this with h | h
      · exact .inl (List.elem_iff.mp h)
      · have h := List.elem_iff.mp h
        exact .inr ⟨h, hd q h⟩
    · obtain ⟨⟨h1, h2⟩, h3⟩ := l2 q hq
      exact ⟨gloIn_ok h1, of_decide_eq_true h2, h3⟩
    · obtain ⟨⟨h1, h2⟩, h3⟩ := l3 q hq
      refine ⟨gloIn_ok h1, of_decide_eq_true h2, ?_⟩
      split at h3
      · rename_i cl e
        exact ⟨cl, e, h3⟩
      · cases h3
    · have := l5 cl (List.mem_of_getElem? h1) (m, f) (lookup_in h2)
      exact Option.isSome_iff_exists.mp this
  have hex : ∀ x, t.sup x x = true → x ∈ t.exs := fun x h => by
    rw [hsup] at h
    exact List.elem_iff.mp (l8 (x, x) (List.elem_iff.mp h))
  refine ⟨NF, nfx_of c X G NF (by rw [hsup]; rfl) (by rw [hxf]; rfl) hex (fun q hq => ?_) (fun x hq => ?_), fnf_of c fun f Fn h => ?_⟩
  · obtain ⟨⟨h1, h2⟩, h3⟩ := l6 q hq
    exact ⟨gloIn_ok h1, of_decide_eq_true h2, h3⟩
  · obtain ⟨h1, h2⟩ := l7 x hq
    exact ⟨List.elem_iff.mp h1, h2, hx x hq⟩
  · have := h8_of (z := z) hA he f Fn h
    rwa [hdn]
/-- the last def, as the law's end wants it -/
theorem law_end {n ix : Nat} {Fl : Fn} {d : He.DefD} {N ps : List Str} {l : PySem.W.OpenLaw} {x : Str} {dl : DefRec} (hdl : dl.name = d.name) (hps : ps = [x]) (hP : P = l.prog)
    (c : He.SaysX fa fnD ts [] (exB t glT conL dctL xin) w hp K) (X : K.In hp) (G : hp.Ns mainGlobals mg) {f : Addr} (hmg : mg dl.name = some (.ref f)) (hglo : He.Fa.glo d.name ∈ fa) (hdn : d.at_ = (d.name, none))
    (hN : ∀ base, Nf (Fof (pgOf fnT clT glT supT xf) t inj P w K mg base) nm ∧ NfX (Fof (pgOf fnT clT glT supT xf) t inj P w K mg base) nm ∧ ∀ f Fn, (pgOf fnT clT glT supT xf).fn f = some Fn → FnF (Fof (pgOf fnT clT glT supT xf) t inj P w K mg base) nm f Fn)
    (hl : (pgOf fnT clT glT supT xf).fn ix = some Fl) (hd : d ∈ fnD) (ha : d.at_ = t.dn ix) (m : Dm nm Fl d N ps)
    (math : ∀ ns : List Int, ns.length ≤ 63 → ∃ ob, (callN (pgOf fnT clT glT supT xf) (n + 1)).1 ix [.scr (ns.map .int)] [] = .ok (.val (.bl true)) ob) :
    ∃ (K : PySem.W.Frag) (fd : FuncData) (sp : Sp), K.In hp ∧ (∀ (s : Shared) (u : Value), BindsTo s fd ⟨[u], []⟩ [(x, u)]) ∧
        (∀ (H : Hp) (a : Addr) (ns : List Int), ns.length ≤ 63 → Only H → SqL K H a (ns.map V.int) → sp [.ref a] H (fun v _ => v = .bl true) fun _ _ _ => False) ∧
        ∀ base : Heap, K.In base → base.Ns mainGlobals mg → FnOk l.prog w K mg base (L2.CX l.prog w) (n + 3) f fd [x] sp := by
  subst hps hP
  obtain ⟨fd, Fd⟩ := funD_at c hd m.dfl m.kwd
  have ef : f = t.fa K ix := by
    have e := He.glo_ok X G (He.SaysD.facts c.t.d hglo)
    rw [hdl] at hmg
    rw [hmg] at e
    cases e
    unfold Tb.fa
    rw [← ha, hdn]
    rfl
  rw [ha] at Fd
  have b := FunD.bindsA (ps := [x]) (by exact Fd) m.bd
  refine ⟨K, fd, spF (Fof (pgOf fnT clT glT supT xf) t inj l.prog w K mg hp) (callN (pgOf fnT clT glT supT xf) (n + 1)).1 ix, X, fun s v => b s [v] rfl, fun H a ns hle _ hS => ?_, fun base KX GB => ?_⟩
  · obtain ⟨ob, h⟩ := math ns hle
    exact law_sp (F := Fof (pgOf fnT clT glT supT xf) t inj l.prog w K mg hp) hS h
  · obtain ⟨NF, NX, FN⟩ := hN base
    obtain ⟨L1, L0⟩ := lv_all NF NX FN n
    rw [ef]
    exact fn_step (F := Fof (pgOf fnT clT glT supT xf) t inj l.prog w K mg base) NF NX hl Fd m.sc m.ns m.np m.ck L1 L0
end
end Tk
/- Fact13 -/
set_option Elab.async false
set_option linter.all false
set_option maxRecDepth 100000
set_option maxHeartbeats 1000000
namespace Tk
open PySem PySem.Spec PyProof.Rows L2
/-- what is seen of the objects at these addresses -/
def obsY (as : List Addr) (fa : List He.Fa) (fn : List He.DefD) (ts : List He.Tab) (ex : PySem.W.Frag → Bool) (g : Addr → Option Obj) : He.AlX := (He.obsT fa fn ts (He.frG g as), ex (He.frG g as))
theorem saysY_of {as : List Addr} {fa : List He.Fa} {fn : List He.DefD} {ts : List He.Tab} {ex : PySem.W.Frag → Bool} {w : World} {h : Heap} (e : obsY as fa fn ts ex h.get? = He.valX fn ts w) : He.SaysX fa fn ts [] ex w h (He.frG h.get? as) :=
  ⟨congrArg (fun z : He.AlX => z.1) e, congrArg (fun z : He.AlX => z.2) e, fun _ hp => absurd hp List.not_mem_nil, fun _ hp => absurd hp List.not_mem_nil, fun _ hp => absurd hp List.not_mem_nil⟩
def hookY (as : List Addr) (fa : List He.Fa) (fn : List He.DefD) (ts : List He.Tab) (ex : PySem.W.Frag → Bool) : PySem.W.Hook where
  α := He.AlX
  obs := fun s => obsY as fa fn ts ex s.heap.get?
  val := fun w => He.valX fn ts w
  says := fun w h => ∃ K : PySem.W.Frag, K.In h ∧ He.SaysX fa fn ts [] ex w h K
  of := fun _ _ e => ⟨_, He.frG_in, saysY_of e⟩
  keeps := fun _ _ _ ⟨K, hK, c⟩ k => ⟨K, PySem.W.Frag.In.keeps hK k, ⟨c.t, c.more, c.hd, c.out, fun p hp => k _ _ (c.empty p hp)⟩⟩
theorem obsY_eq {as : List Addr} {fa : List He.Fa} {fn : List He.DefD} {ts : List He.Tab} {ex : PySem.W.Frag → Bool} {g : Addr → Option Obj} {s : Shared} (h : ∀ a, g a = s.heap.get? a) : obsY as fa fn ts ex g = (hookY as fa fn ts ex).obs s := by
  have e : g = s.heap.get? := funext h
  rw [e] <;> rfl
end Tk
/- K61P -/
set_option Elab.async false
set_option linter.all false
set_option maxRecDepth 100000
set_option maxHeartbeats 0
namespace Tk.K61
open PySem
def f__wall : Nat := 0
def f_is_word : Nat := 1
def f_is_text : Nat := 2
def f_pieces : Nat := 3
def f_is_sound : Nat := 4
def f_places : Nat := 5
def f_are_different : Nat := 6
def f_are_words : Nat := 7
def f_is_content : Nat := 8
def f_are_arms : Nat := 9
def f_has_parts : Nat := 10
def f_is_node : Nat := 11
def f_check_slots : Nat := 12
def f_check_nodes : Nat := 13
def f_check_charts : Nat := 14
def f_back_words : Nat := 15
def f_Links___init__ : Nat := 16
def f_Links_check_slot : Nat := 17
def f_Links_check_content : Nat := 18
def f_Links_check_next : Nat := 19
def f_Links_check_hand : Nat := 20
def f_Links_check_node : Nat := 21
def f_check_links : Nat := 22
def f_House___init__ : Nat := 23
def f_House_main : Nat := 24
def f_House_empty : Nat := 25
def f_House_slot_names : Nat := 26
def f_House_has_slot : Nat := 27
def f_House_has_chart : Nat := 28
def f_House_has_node : Nat := 29
def f_House_contents : Nat := 30
def f_House_slot_at : Nat := 31
def f_House_chart_names : Nat := 32
def f_House_node_names : Nat := 33
def f_House_node : Nat := 34
def f_House_first : Nat := 35
def f_House_backs : Nat := 36
def f_House_is_sheet : Nat := 37
def f_House_put : Nat := 38
def f_House_content : Nat := 39
def f_sewn_node : Nat := 40
def f_need_different : Nat := 41
def f_sew : Nat := 42
def f__law_mixed : Nat := 43
def f__law_draws : Nat := 44
def f__law_slots : Nat := 45
def f__law_names : Nat := 46
def f__law_base : Nat := 47
def f__law_kind : Nat := 48
def f__law_target : Nat := 49
def f__law_said : Nat := 50
def f__law_arms : Nat := 51
def f__law_node : Nat := 52
def f__law_charts : Nat := 53
def f__law_same : Nat := 54
def f__law_new : Nat := 55
def f__law_new_text : Nat := 56
def f__law_new_node : Nat := 57
def f__law_renamed : Nat := 58
def f__law_sewn : Nat := 59
def f__law_due : Nat := 60
def f__law_answer : Nat := 61
def f_law : Nat := 62
def c__wall : Fn := ⟨1, 1, (.cons (.whl (.cst (.bl true)) (.cons .pass .nil)) .nil)⟩
def c_is_word : Fn := ⟨1, 2, (.cons (.ite (.or (.cons (.not (.op (.isi [.inl "str"]) (.cons (.var 0) .nil))) (.cons (.not (.chn .le .le (.cst (.int (1))) (.op .len (.cons (.var 0) .nil)) (.glo 8))) .nil))) (.cons (.ret (.cst (.bl false))) .nil) .nil) (.cons (.ite (.op .notin (.cons (.op .idx (.cons (.var 0) (.cons (.cst (.int (0))) .nil))) (.cons (.glo 5) .nil))) (.cons (.ret (.cst (.bl false))) .nil) .nil) (.cons (.for [1] true (.var 0) (.cons (.ite (.and (.cons (.op .notin (.cons (.var 1) (.cons (.glo 5) .nil))) (.cons (.op .notin (.cons (.var 1) (.cons (.glo 6) .nil))) .nil))) (.cons (.ret (.cst (.bl false))) .nil) .nil) .nil)) (.cons (.ret (.cst (.bl true))) .nil))))⟩
def c_is_text : Fn := ⟨1, 2, (.cons (.ite (.or (.cons (.not (.op (.isi [.inl "str"]) (.cons (.var 0) .nil))) (.cons (.not (.chn .le .le (.cst (.int (1))) (.op .len (.cons (.var 0) .nil)) (.glo 9))) .nil))) (.cons (.ret (.cst (.bl false))) .nil) .nil) (.cons (.ite (.or (.cons (.op .eq (.cons (.op .idx (.cons (.var 0) (.cons (.cst (.int (0))) .nil))) (.cons (.cst (.str [32])) .nil))) (.cons (.op .eq (.cons (.op .idx (.cons (.var 0) (.cons (.op .sub (.cons (.op .len (.cons (.var 0) .nil)) (.cons (.cst (.int (1))) .nil))) .nil))) (.cons (.cst (.str [32])) .nil))) .nil))) (.cons (.ret (.cst (.bl false))) .nil) .nil) (.cons (.for [1] true (.var 0) (.cons (.ite (.op .notin (.cons (.var 1) (.cons (.glo 7) .nil))) (.cons (.ret (.cst (.bl false))) .nil) .nil) .nil)) (.cons (.ret (.cst (.bl true))) .nil))))⟩
def c_pieces : Fn := ⟨1, 5, (.cons (.asg 1 (.lst .nil)) (.cons (.asg 2 (.cst (.int (0)))) (.cons (.asg 3 (.cst (.int (0)))) (.cons (.whl (.op .lt (.cons (.var 3) (.cons (.op .len (.cons (.var 0) .nil)) .nil))) (.cons (.ite (.op .eq (.cons (.op .idx (.cons (.var 0) (.cons (.var 3) .nil))) (.cons (.cst (.str [62])) .nil))) (.cons (.rais 3 (.cons (.var 3) .nil)) .nil) .nil) (.cons (.ite (.op .eq (.cons (.op .idx (.cons (.var 0) (.cons (.var 3) .nil))) (.cons (.cst (.str [60])) .nil))) (.cons (.asg 4 (.op .find_ (.cons (.var 0) (.cons (.cst (.str [62])) (.cons (.var 3) .nil))))) (.cons (.ite (.or (.cons (.op .lt (.cons (.var 4) (.cons (.cst (.int (0))) .nil))) (.cons (.not (.call f_is_word (.cons (.op .slcLH (.cons (.var 0) (.cons (.op .add (.cons (.var 3) (.cons (.cst (.int (1))) .nil))) (.cons (.var 4) .nil)))) .nil))) .nil))) (.cons (.rais 3 (.cons (.var 3) .nil)) .nil) .nil) (.cons (.ite (.op .lt (.cons (.var 2) (.cons (.var 3) .nil))) (.cons (.app 1 (.tup (.cons (.cst (.str [112, 108, 97, 105, 110])) (.cons (.op .slcLH (.cons (.var 0) (.cons (.var 2) (.cons (.var 3) .nil)))) .nil)))) .nil) .nil) (.cons (.app 1 (.tup (.cons (.cst (.str [115, 108, 111, 116])) (.cons (.op .slcLH (.cons (.var 0) (.cons (.op .add (.cons (.var 3) (.cons (.cst (.int (1))) .nil))) (.cons (.var 4) .nil)))) .nil)))) (.cons (.asg 2 (.fz (.op .add (.cons (.var 4) (.cons (.cst (.int (1))) .nil))))) (.cons (.asg 3 (.var 4)) .nil)))))) .nil) (.cons (.aug 3 .add (.cst (.int (1)))) .nil)))) (.cons (.ite (.op .lt (.cons (.var 2) (.cons (.op .len (.cons (.var 0) .nil)) .nil))) (.cons (.app 1 (.tup (.cons (.cst (.str [112, 108, 97, 105, 110])) (.cons (.op .slcL (.cons (.var 0) (.cons (.var 2) .nil))) .nil)))) .nil) .nil) (.cons (.ret (.mov 1)) .nil))))))⟩
def c_is_sound : Fn := ⟨1, 1, (.cons (.try_ (.cons (.exp (.call f_pieces (.cons (.var 0) .nil))) .nil) 3 none (.ret (.cst (.bl false)))) (.cons (.ret (.cst (.bl true))) .nil))⟩
def c_places : Fn := ⟨1, 2, (.cons (.ret (.comp [1] [1] true (.call f_pieces (.cons (.var 0) .nil)) (.cons (.op .eq (.cons (.op .idx (.cons (.var 1) (.cons (.cst (.int (0))) .nil))) (.cons (.cst (.str [115, 108, 111, 116])) .nil))) .nil) (.op .idx (.cons (.var 1) (.cons (.cst (.int (1))) .nil))))) .nil)⟩
def c_are_different : Fn := ⟨1, 2, (.cons (.for [1] true (.rng (.cons (.op .len (.cons (.var 0) .nil)) .nil)) (.cons (.ite (.op .isin (.cons (.op .idx (.cons (.var 0) (.cons (.var 1) .nil))) (.cons (.op .slcH (.cons (.var 0) (.cons (.var 1) .nil))) .nil))) (.cons (.ret (.cst (.bl false))) .nil) .nil) .nil)) (.cons (.ret (.cst (.bl true))) .nil))⟩
def c_are_words : Fn := ⟨1, 2, (.cons (.ite (.not (.op (.isi [.inl "tuple"]) (.cons (.var 0) .nil))) (.cons (.ret (.cst (.bl false))) .nil) .nil) (.cons (.for [1] true (.var 0) (.cons (.ite (.not (.call f_is_word (.cons (.var 1) .nil))) (.cons (.ret (.cst (.bl false))) .nil) .nil) .nil)) (.cons (.ret (.call f_are_different (.cons (.var 0) .nil))) .nil)))⟩
def c_is_content : Fn := ⟨1, 1, (.cons (.ret (.and (.cons (.op (.isi [.inl "str"]) (.cons (.var 0) .nil)) (.cons (.or (.cons (.op .eq (.cons (.var 0) (.cons (.cst (.str [])) .nil))) (.cons (.call f_is_word (.cons (.var 0) .nil)) .nil))) .nil)))) .nil)⟩
def c_are_arms : Fn := ⟨2, 3, (.cons (.ite (.or (.cons (.not (.op (.isi [.inl "tuple"]) (.cons (.var 0) .nil))) (.cons (.not (.chn .le .le (.var 1) (.op .len (.cons (.var 0) .nil)) (.glo 4))) .nil))) (.cons (.ret (.cst (.bl false))) .nil) .nil) (.cons (.for [2] true (.var 0) (.cons (.ite (.or (.cons (.not (.op (.isi [.inl "tuple"]) (.cons (.var 2) .nil))) (.cons (.op .ne (.cons (.op .len (.cons (.var 2) .nil)) (.cons (.cst (.int (2))) .nil))) .nil))) (.cons (.ret (.cst (.bl false))) .nil) .nil) (.cons (.ite (.or (.cons (.not (.call f_is_word (.cons (.op .idx (.cons (.var 2) (.cons (.cst (.int (0))) .nil))) .nil))) (.cons (.not (.call f_is_word (.cons (.op .idx (.cons (.var 2) (.cons (.cst (.int (1))) .nil))) .nil))) .nil))) (.cons (.ret (.cst (.bl false))) .nil) .nil) .nil))) (.cons (.ret (.call f_are_different (.cons (.comp [2] [2] true (.var 0) .nil (.op .idx (.cons (.var 2) (.cons (.cst (.int (0))) .nil)))) .nil))) .nil)))⟩
def c_has_parts : Fn := ⟨1, 2, (.cons (.asg 1 (.op .idx (.cons (.var 0) (.cons (.cst (.int (0))) .nil)))) (.cons (.ite (.op .eq (.cons (.var 1) (.cons (.cst (.str [115, 97, 121])) .nil))) (.cons (.ret (.and (.cons (.call f_is_text (.cons (.op .idx (.cons (.var 0) (.cons (.cst (.int (2))) .nil))) .nil)) (.cons (.call f_is_sound (.cons (.op .idx (.cons (.var 0) (.cons (.cst (.int (2))) .nil))) .nil)) (.cons (.call f_is_word (.cons (.op .idx (.cons (.var 0) (.cons (.cst (.int (3))) .nil))) .nil)) .nil))))) .nil) .nil) (.cons (.ite (.op .eq (.cons (.var 1) (.cons (.cst (.str [115, 101, 116])) .nil))) (.cons (.ret (.and (.cons (.call f_is_word (.cons (.op .idx (.cons (.var 0) (.cons (.cst (.int (2))) .nil))) .nil)) (.cons (.call f_is_content (.cons (.op .idx (.cons (.var 0) (.cons (.cst (.int (3))) .nil))) .nil)) (.cons (.call f_is_word (.cons (.op .idx (.cons (.var 0) (.cons (.cst (.int (4))) .nil))) .nil)) .nil))))) .nil) .nil) (.cons (.ite (.op .eq (.cons (.var 1) (.cons (.cst (.str [116, 101, 115, 116])) .nil))) (.cons (.ret (.and (.cons (.call f_is_word (.cons (.op .idx (.cons (.var 0) (.cons (.cst (.int (2))) .nil))) .nil)) (.cons (.call f_is_content (.cons (.op .idx (.cons (.var 0) (.cons (.cst (.int (3))) .nil))) .nil)) (.cons (.call f_is_word (.cons (.op .idx (.cons (.var 0) (.cons (.cst (.int (4))) .nil))) .nil)) (.cons (.call f_is_word (.cons (.op .idx (.cons (.var 0) (.cons (.cst (.int (5))) .nil))) .nil)) .nil)))))) .nil) .nil) (.cons (.ite (.op .eq (.cons (.var 1) (.cons (.cst (.str [97, 115, 107])) .nil))) (.cons (.ite (.or (.cons (.not (.call f_is_word (.cons (.op .idx (.cons (.var 0) (.cons (.cst (.int (2))) .nil))) .nil))) (.cons (.not (.call f_is_word (.cons (.op .idx (.cons (.var 0) (.cons (.cst (.int (3))) .nil))) .nil))) (.cons (.not (.call f_is_word (.cons (.op .idx (.cons (.var 0) (.cons (.cst (.int (4))) .nil))) .nil))) .nil)))) (.cons (.ret (.cst (.bl false))) .nil) .nil) (.cons (.ret (.and (.cons (.call f_are_words (.cons (.op .idx (.cons (.var 0) (.cons (.cst (.int (5))) .nil))) .nil)) (.cons (.op .le (.cons (.op .len (.cons (.op .idx (.cons (.var 0) (.cons (.cst (.int (5))) .nil))) .nil)) (.cons (.glo 0) .nil))) .nil)))) .nil)) .nil) (.cons (.ite (.op .eq (.cons (.var 1) (.cons (.cst (.str [112, 105, 99, 107])) .nil))) (.cons (.ret (.call f_are_arms (.cons (.op .idx (.cons (.var 0) (.cons (.cst (.int (2))) .nil))) (.cons (.cst (.int (1))) .nil)))) .nil) .nil) (.cons (.ite (.op .eq (.cons (.var 1) (.cons (.cst (.str [104, 97, 110, 100])) .nil))) (.cons (.ret (.and (.cons (.call f_is_word (.cons (.op .idx (.cons (.var 0) (.cons (.cst (.int (2))) .nil))) .nil)) (.cons (.call f_are_arms (.cons (.op .idx (.cons (.var 0) (.cons (.cst (.int (3))) .nil))) (.cons (.cst (.int (0))) .nil))) .nil)))) .nil) .nil) (.cons (.ret (.call f_is_word (.cons (.op .idx (.cons (.var 0) (.cons (.cst (.int (2))) .nil))) .nil))) .nil))))))))⟩
def c_is_node : Fn := ⟨1, 2, (.cons (.ite (.or (.cons (.not (.op (.isi [.inl "tuple"]) (.cons (.var 0) .nil))) (.cons (.op .eq (.cons (.op .len (.cons (.var 0) .nil)) (.cons (.cst (.int (0))) .nil))) .nil))) (.cons (.ret (.cst (.bl false))) .nil) .nil) (.cons (.asg 1 (.op .idx (.cons (.var 0) (.cons (.cst (.int (0))) .nil)))) (.cons (.ite (.or (.cons (.not (.op (.isi [.inl "str"]) (.cons (.var 1) .nil))) (.cons (.op .notin (.cons (.var 1) (.cons (.glo 10) .nil))) .nil))) (.cons (.ret (.cst (.bl false))) .nil) .nil) (.cons (.ite (.or (.cons (.op .ne (.cons (.op .len (.cons (.var 0) .nil)) (.cons (.op .idx (.cons (.glo 11) (.cons (.var 1) .nil))) .nil))) (.cons (.not (.call f_is_word (.cons (.op .idx (.cons (.var 0) (.cons (.cst (.int (1))) .nil))) .nil))) .nil))) (.cons (.ret (.cst (.bl false))) .nil) .nil) (.cons (.ret (.call f_has_parts (.cons (.var 0) .nil))) .nil)))))⟩
def c_check_slots : Fn := ⟨1, 4, (.cons (.ite (.or (.cons (.not (.op (.isi [.inl "tuple"]) (.cons (.var 0) .nil))) (.cons (.op .gt (.cons (.op .len (.cons (.var 0) .nil)) (.cons (.glo 0) .nil))) .nil))) (.cons (.rais 4 (.cons (.cst (.str [115, 108, 111, 116, 115])) (.cons (.tup .nil) .nil))) .nil) .nil) (.cons (.asg 1 (.lst .nil)) (.cons (.for [2] true (.rng (.cons (.op .len (.cons (.var 0) .nil)) .nil)) (.cons (.asg 3 (.op .idx (.cons (.var 0) (.cons (.var 2) .nil)))) (.cons (.ite (.or (.cons (.not (.op (.isi [.inl "tuple"]) (.cons (.var 3) .nil))) (.cons (.op .ne (.cons (.op .len (.cons (.var 3) .nil)) (.cons (.cst (.int (2))) .nil))) (.cons (.not (.call f_is_word (.cons (.op .idx (.cons (.var 3) (.cons (.cst (.int (0))) .nil))) .nil))) .nil)))) (.cons (.rais 4 (.cons (.cst (.str [115, 108, 111, 116])) (.cons (.tup (.cons (.var 2) .nil)) .nil))) .nil) .nil) (.cons (.ite (.or (.cons (.not (.call f_are_words (.cons (.op .idx (.cons (.var 3) (.cons (.cst (.int (1))) .nil))) .nil))) (.cons (.not (.chn .le .le (.cst (.int (1))) (.op .len (.cons (.op .idx (.cons (.var 3) (.cons (.cst (.int (1))) .nil))) .nil)) (.glo 1))) .nil))) (.cons (.rais 4 (.cons (.cst (.str [99, 111, 110, 116, 101, 110, 116, 115])) (.cons (.tup (.cons (.var 2) .nil)) .nil))) .nil) .nil) (.cons (.ite (.op .isin (.cons (.op .idx (.cons (.var 3) (.cons (.cst (.int (0))) .nil))) (.cons (.pk 1) .nil))) (.cons (.rais 4 (.cons (.cst (.str [115, 108, 111, 116, 32, 116, 119, 105, 99, 101])) (.cons (.tup (.cons (.var 2) .nil)) .nil))) .nil) .nil) (.cons (.app 1 (.op .idx (.cons (.var 3) (.cons (.cst (.int (0))) .nil)))) .nil)))))) .nil)))⟩
def c_check_nodes : Fn := ⟨2, 4, (.cons (.asg 2 (.lst .nil)) (.cons (.for [3] true (.rng (.cons (.op .len (.cons (.var 0) .nil)) .nil)) (.cons (.ite (.not (.call f_is_node (.cons (.op .idx (.cons (.var 0) (.cons (.var 3) .nil))) .nil))) (.cons (.rais 4 (.cons (.cst (.str [110, 111, 100, 101])) (.cons (.tup (.cons (.var 1) (.cons (.var 3) .nil))) .nil))) .nil) .nil) (.cons (.ite (.op .isin (.cons (.op .idx (.cons (.op .idx (.cons (.var 0) (.cons (.var 3) .nil))) (.cons (.cst (.int (1))) .nil))) (.cons (.pk 2) .nil))) (.cons (.rais 4 (.cons (.cst (.str [110, 111, 100, 101, 32, 116, 119, 105, 99, 101])) (.cons (.tup (.cons (.var 1) (.cons (.var 3) .nil))) .nil))) .nil) .nil) (.cons (.app 2 (.op .idx (.cons (.op .idx (.cons (.var 0) (.cons (.var 3) .nil))) (.cons (.cst (.int (1))) .nil)))) .nil)))) .nil))⟩
def c_check_charts : Fn := ⟨1, 4, (.cons (.ite (.or (.cons (.not (.op (.isi [.inl "tuple"]) (.cons (.var 0) .nil))) (.cons (.not (.chn .le .le (.cst (.int (1))) (.op .len (.cons (.var 0) .nil)) (.glo 2))) .nil))) (.cons (.rais 4 (.cons (.cst (.str [99, 104, 97, 114, 116, 115])) (.cons (.tup .nil) .nil))) .nil) .nil) (.cons (.asg 1 (.lst .nil)) (.cons (.for [2] true (.rng (.cons (.op .len (.cons (.var 0) .nil)) .nil)) (.cons (.asg 3 (.op .idx (.cons (.var 0) (.cons (.var 2) .nil)))) (.cons (.ite (.or (.cons (.not (.op (.isi [.inl "tuple"]) (.cons (.var 3) .nil))) (.cons (.op .ne (.cons (.op .len (.cons (.var 3) .nil)) (.cons (.cst (.int (2))) .nil))) (.cons (.not (.call f_is_word (.cons (.op .idx (.cons (.var 3) (.cons (.cst (.int (0))) .nil))) .nil))) .nil)))) (.cons (.rais 4 (.cons (.cst (.str [99, 104, 97, 114, 116])) (.cons (.tup (.cons (.var 2) .nil)) .nil))) .nil) .nil) (.cons (.ite (.or (.cons (.not (.op (.isi [.inl "tuple"]) (.cons (.op .idx (.cons (.var 3) (.cons (.cst (.int (1))) .nil))) .nil))) (.cons (.not (.chn .le .le (.cst (.int (1))) (.op .len (.cons (.op .idx (.cons (.var 3) (.cons (.cst (.int (1))) .nil))) .nil)) (.glo 3))) .nil))) (.cons (.rais 4 (.cons (.cst (.str [110, 111, 100, 101, 115])) (.cons (.tup (.cons (.var 2) .nil)) .nil))) .nil) .nil) (.cons (.ite (.op .isin (.cons (.op .idx (.cons (.var 3) (.cons (.cst (.int (0))) .nil))) (.cons (.pk 1) .nil))) (.cons (.rais 4 (.cons (.cst (.str [99, 104, 97, 114, 116, 32, 116, 119, 105, 99, 101])) (.cons (.tup (.cons (.var 2) .nil)) .nil))) .nil) .nil) (.cons (.app 1 (.op .idx (.cons (.var 3) (.cons (.cst (.int (0))) .nil)))) (.cons (.exp (.call f_check_nodes (.cons (.op .idx (.cons (.var 3) (.cons (.cst (.int (1))) .nil))) (.cons (.var 2) .nil)))) .nil))))))) .nil)))⟩
def c_back_words : Fn := ⟨1, 3, (.cons (.asg 1 .dnew) (.cons (.for [2] true (.var 0) (.cons (.ite (.op .eq (.cons (.op .idx (.cons (.var 2) (.cons (.cst (.int (0))) .nil))) (.cons (.cst (.str [98, 97, 99, 107])) .nil))) (.cons (.seti 1 (.op .idx (.cons (.var 2) (.cons (.cst (.int (2))) .nil))) (.cst (.bl true))) .nil) .nil) .nil)) (.cons (.ret (.op .tuple_ (.cons (.op .sorted_ (.cons (.pk 1) .nil)) .nil))) .nil)))⟩
def c_Links___init__ : Fn := ⟨3, 7, (.cons (.setf (.var 0) 2 .dnew) (.cons (.for [3, 4] false (.var 1) (.cons (.setfi (.var 0) 2 (.var 3) (.var 4)) .nil)) (.cons (.setf (.var 0) 1 .dnew) (.cons (.setf (.var 0) 0 .dnew) (.cons (.for [3, 5] false (.var 2) (.cons (.setfi (.var 0) 1 (.var 3) (.comp [6] [6] true (.var 5) .nil (.op .idx (.cons (.var 6) (.cons (.cst (.int (1))) .nil))))) (.cons (.setfi (.var 0) 0 (.var 3) (.call f_back_words (.cons (.var 5) .nil))) .nil))) .nil)))))⟩
def c_Links_check_slot : Fn := ⟨3, 3, (.cons (.ite (.op .notin (.cons (.var 1) (.cons (.pkf (.var 0) 2) .nil))) (.cons (.rais 4 (.cons (.cst (.str [110, 111, 32, 115, 108, 111, 116])) (.cons (.var 2) .nil))) .nil) .nil) .nil)⟩
def c_Links_check_content : Fn := ⟨4, 4, (.cons (.exp (.meth 3 (.var 0) (.cons (.var 1) (.cons (.var 3) .nil)))) (.cons (.ite (.and (.cons (.op .ne (.cons (.var 2) (.cons (.cst (.str [])) .nil))) (.cons (.op .notin (.cons (.var 2) (.cons (.pki (.pkf (.var 0) 2) (.var 1)) .nil))) .nil))) (.cons (.rais 4 (.cons (.cst (.str [110, 111, 32, 99, 111, 110, 116, 101, 110, 116])) (.cons (.var 3) .nil))) .nil) .nil) .nil))⟩
def c_Links_check_next : Fn := ⟨4, 5, (.cons (.for [4] true (.var 2) (.cons (.ite (.op .notin (.cons (.var 4) (.cons (.pki (.pkf (.var 0) 1) (.var 1)) .nil))) (.cons (.rais 4 (.cons (.cst (.str [110, 111, 32, 110, 111, 100, 101])) (.cons (.var 3) .nil))) .nil) .nil) .nil)) .nil)⟩
def c_Links_check_hand : Fn := ⟨3, 4, (.cons (.ite (.op .notin (.cons (.op .idx (.cons (.var 1) (.cons (.cst (.int (2))) .nil))) (.cons (.pkf (.var 0) 1) .nil))) (.cons (.rais 4 (.cons (.cst (.str [110, 111, 32, 99, 104, 97, 114, 116])) (.cons (.var 2) .nil))) .nil) .nil) (.cons (.ite (.op .ne (.cons (.op .tuple_ (.cons (.comp [3] [3] true (.op .idx (.cons (.var 1) (.cons (.cst (.int (3))) .nil))) .nil (.op .idx (.cons (.var 3) (.cons (.cst (.int (0))) .nil)))) .nil)) (.cons (.pki (.pkf (.var 0) 0) (.op .idx (.cons (.var 1) (.cons (.cst (.int (2))) .nil)))) .nil))) (.cons (.rais 4 (.cons (.cst (.str [97, 114, 109, 115])) (.cons (.var 2) .nil))) .nil) .nil) .nil))⟩
def c_Links_check_node : Fn := ⟨5, 8, (.cons (.asg 5 (.op .idx (.cons (.var 2) (.cons (.cst (.int (0))) .nil)))) (.cons (.ite (.op .eq (.cons (.var 5) (.cons (.cst (.str [115, 97, 121])) .nil))) (.cons (.for [6] true (.call f_places (.cons (.op .idx (.cons (.var 2) (.cons (.cst (.int (2))) .nil))) .nil)) (.cons (.exp (.meth 3 (.var 0) (.cons (.var 6) (.cons (.var 3) .nil)))) .nil)) (.cons (.exp (.meth 4 (.var 0) (.cons (.var 1) (.cons (.lst (.cons (.op .idx (.cons (.var 2) (.cons (.cst (.int (3))) .nil))) .nil)) (.cons (.var 3) .nil))))) .nil)) (.cons (.ite (.op .eq (.cons (.var 5) (.cons (.cst (.str [103, 111])) .nil))) (.cons (.exp (.meth 4 (.var 0) (.cons (.var 1) (.cons (.lst (.cons (.op .idx (.cons (.var 2) (.cons (.cst (.int (2))) .nil))) .nil)) (.cons (.var 3) .nil))))) .nil) (.cons (.ite (.op .eq (.cons (.var 5) (.cons (.cst (.str [115, 101, 116])) .nil))) (.cons (.exp (.meth 5 (.var 0) (.cons (.op .idx (.cons (.var 2) (.cons (.cst (.int (2))) .nil))) (.cons (.op .idx (.cons (.var 2) (.cons (.cst (.int (3))) .nil))) (.cons (.var 3) .nil))))) (.cons (.exp (.meth 4 (.var 0) (.cons (.var 1) (.cons (.lst (.cons (.op .idx (.cons (.var 2) (.cons (.cst (.int (4))) .nil))) .nil)) (.cons (.var 3) .nil))))) .nil)) (.cons (.ite (.op .eq (.cons (.var 5) (.cons (.cst (.str [116, 101, 115, 116])) .nil))) (.cons (.exp (.meth 5 (.var 0) (.cons (.op .idx (.cons (.var 2) (.cons (.cst (.int (2))) .nil))) (.cons (.op .idx (.cons (.var 2) (.cons (.cst (.int (3))) .nil))) (.cons (.var 3) .nil))))) (.cons (.exp (.meth 4 (.var 0) (.cons (.var 1) (.cons (.lst (.cons (.op .idx (.cons (.var 2) (.cons (.cst (.int (4))) .nil))) (.cons (.op .idx (.cons (.var 2) (.cons (.cst (.int (5))) .nil))) .nil))) (.cons (.var 3) .nil))))) .nil)) (.cons (.ite (.op .eq (.cons (.var 5) (.cons (.cst (.str [97, 115, 107])) .nil))) (.cons (.exp (.meth 3 (.var 0) (.cons (.op .idx (.cons (.var 2) (.cons (.cst (.int (2))) .nil))) (.cons (.var 3) .nil)))) (.cons (.exp (.meth 4 (.var 0) (.cons (.var 1) (.cons (.lst (.cons (.op .idx (.cons (.var 2) (.cons (.cst (.int (3))) .nil))) (.cons (.op .idx (.cons (.var 2) (.cons (.cst (.int (4))) .nil))) .nil))) (.cons (.var 3) .nil))))) (.cons (.for [6] true (.op .idx (.cons (.var 2) (.cons (.cst (.int (5))) .nil))) (.cons (.exp (.meth 3 (.var 0) (.cons (.var 6) (.cons (.var 3) .nil)))) .nil)) .nil))) (.cons (.ite (.op .eq (.cons (.var 5) (.cons (.cst (.str [112, 105, 99, 107])) .nil))) (.cons (.exp (.meth 4 (.var 0) (.cons (.var 1) (.cons (.comp [7] [7] true (.op .idx (.cons (.var 2) (.cons (.cst (.int (2))) .nil))) .nil (.op .idx (.cons (.var 7) (.cons (.cst (.int (1))) .nil)))) (.cons (.var 3) .nil))))) .nil) (.cons (.ite (.op .eq (.cons (.var 5) (.cons (.cst (.str [104, 97, 110, 100])) .nil))) (.cons (.exp (.meth 6 (.var 0) (.cons (.var 2) (.cons (.var 3) .nil)))) (.cons (.exp (.meth 4 (.var 0) (.cons (.var 1) (.cons (.comp [7] [7] true (.op .idx (.cons (.var 2) (.cons (.cst (.int (3))) .nil))) .nil (.op .idx (.cons (.var 7) (.cons (.cst (.int (1))) .nil)))) (.cons (.var 3) .nil))))) .nil)) (.cons (.ite (.and (.cons (.op .eq (.cons (.var 5) (.cons (.cst (.str [98, 97, 99, 107])) .nil))) (.cons (.var 4) .nil))) (.cons (.rais 4 (.cons (.cst (.str [109, 97, 105, 110, 32, 98, 97, 99, 107])) (.cons (.var 3) .nil))) .nil) .nil) .nil)) .nil)) .nil)) .nil)) .nil)) .nil)) .nil)) .nil))⟩
def c_check_links : Fn := ⟨2, 7, (.cons (.asg 2 (.make 0 (.cons (.var 0) (.cons (.var 1) .nil)))) (.cons (.for [3] true (.rng (.cons (.op .len (.cons (.var 1) .nil)) .nil)) (.cons (.asgt [4, 5] (.op .idx (.cons (.var 1) (.cons (.var 3) .nil)))) (.cons (.for [6] true (.rng (.cons (.op .len (.cons (.var 5) .nil)) .nil)) (.cons (.exp (.meth 7 (.var 2) (.cons (.var 4) (.cons (.op .idx (.cons (.var 5) (.cons (.var 6) .nil))) (.cons (.tup (.cons (.var 3) (.cons (.var 6) .nil))) (.cons (.op .eq (.cons (.var 3) (.cons (.cst (.int (0))) .nil))) .nil)))))) .nil)) .nil))) .nil))⟩
def c_House___init__ : Fn := ⟨3, 8, (.cons (.exp (.call f_check_slots (.cons (.var 1) .nil))) (.cons (.exp (.call f_check_charts (.cons (.var 2) .nil))) (.cons (.exp (.call f_check_links (.cons (.var 1) (.cons (.var 2) .nil)))) (.cons (.setf (.var 0) 2 (.var 1)) (.cons (.setf (.var 0) 13 (.var 2)) (.cons (.setf (.var 0) 12 .dnew) (.cons (.setf (.var 0) 11 .dnew) (.cons (.for [3] true (.rng (.cons (.op .len (.cons (.var 1) .nil)) .nil)) (.cons (.setfi (.var 0) 12 (.op .idx (.cons (.op .idx (.cons (.var 1) (.cons (.var 3) .nil))) (.cons (.cst (.int (0))) .nil))) (.var 3)) (.cons (.setfi (.var 0) 11 (.op .idx (.cons (.op .idx (.cons (.var 1) (.cons (.var 3) .nil))) (.cons (.cst (.int (0))) .nil))) (.op .add (.cons (.tup (.cons (.cst (.str [])) .nil)) (.cons (.op .idx (.cons (.op .idx (.cons (.var 1) (.cons (.var 3) .nil))) (.cons (.cst (.int (1))) .nil))) .nil)))) .nil))) (.cons (.setf (.var 0) 10 .dnew) (.cons (.setf (.var 0) 9 .dnew) (.cons (.setf (.var 0) 8 .dnew) (.cons (.for [4, 5] false (.var 2) (.cons (.asg 6 .dnew) (.cons (.for [7] true (.var 5) (.cons (.seti 6 (.op .idx (.cons (.var 7) (.cons (.cst (.int (1))) .nil))) (.var 7)) .nil)) (.cons (.setfi (.var 0) 10 (.var 4) (.frz 6)) (.cons (.setfi (.var 0) 9 (.var 4) (.op .idx (.cons (.op .idx (.cons (.var 5) (.cons (.cst (.int (0))) .nil))) (.cons (.cst (.int (1))) .nil)))) (.cons (.setfi (.var 0) 8 (.var 4) (.call f_back_words (.cons (.var 5) .nil))) .nil)))))) .nil))))))))))))⟩
def c_House_main : Fn := ⟨1, 1, (.cons (.ret (.op .idx (.cons (.op .idx (.cons (.fld (.var 0) 13) (.cons (.cst (.int (0))) .nil))) (.cons (.cst (.int (0))) .nil)))) .nil)⟩
def c_House_empty : Fn := ⟨1, 2, (.cons (.ret (.op .tuple_ (.cons (.comp [1] [1] true (.fld (.var 0) 2) .nil (.cst (.str []))) .nil))) .nil)⟩
def c_House_slot_names : Fn := ⟨1, 2, (.cons (.ret (.op .tuple_ (.cons (.comp [1] [1] true (.fld (.var 0) 2) .nil (.op .idx (.cons (.var 1) (.cons (.cst (.int (0))) .nil)))) .nil))) .nil)⟩
def c_House_has_slot : Fn := ⟨2, 2, (.cons (.ret (.and (.cons (.op (.isi [.inl "str"]) (.cons (.var 1) .nil)) (.cons (.op .isin (.cons (.var 1) (.cons (.pkf (.var 0) 12) .nil))) .nil)))) .nil)⟩
def c_House_has_chart : Fn := ⟨2, 2, (.cons (.ret (.and (.cons (.op (.isi [.inl "str"]) (.cons (.var 1) .nil)) (.cons (.op .isin (.cons (.var 1) (.cons (.pkf (.var 0) 10) .nil))) .nil)))) .nil)⟩
def c_House_has_node : Fn := ⟨3, 3, (.cons (.ret (.and (.cons (.meth 14 (.var 0) (.cons (.var 1) .nil)) (.cons (.op (.isi [.inl "str"]) (.cons (.var 2) .nil)) (.cons (.op .isin (.cons (.var 2) (.cons (.pki (.pkf (.var 0) 10) (.var 1)) .nil))) .nil))))) .nil)⟩
def c_House_contents : Fn := ⟨2, 2, (.cons (.ite (.not (.meth 15 (.var 0) (.cons (.var 1) .nil))) (.cons (.rais 5 (.cons (.var 1) .nil)) .nil) .nil) (.cons (.ret (.op .idx (.cons (.pkf (.var 0) 11) (.cons (.var 1) .nil)))) .nil))⟩
def c_House_slot_at : Fn := ⟨2, 2, (.cons (.exp (.call f__wall (.cons (.cst (.int (0))) .nil))) .nil)⟩
def c_House_chart_names : Fn := ⟨1, 2, (.cons (.ret (.op .tuple_ (.cons (.comp [1] [1] true (.fld (.var 0) 13) .nil (.op .idx (.cons (.var 1) (.cons (.cst (.int (0))) .nil)))) .nil))) .nil)⟩
def c_House_node_names : Fn := ⟨2, 2, (.cons (.exp (.call f__wall (.cons (.cst (.int (1))) .nil))) .nil)⟩
def c_House_node : Fn := ⟨3, 3, (.cons (.ite (.not (.meth 14 (.var 0) (.cons (.var 1) .nil))) (.cons (.rais 5 (.cons (.var 1) .nil)) .nil) .nil) (.cons (.ite (.not (.meth 16 (.var 0) (.cons (.var 1) (.cons (.var 2) .nil)))) (.cons (.rais 5 (.cons (.var 2) .nil)) .nil) .nil) (.cons (.ret (.op .idx (.cons (.pki (.pkf (.var 0) 10) (.var 1)) (.cons (.var 2) .nil)))) .nil)))⟩
def c_House_first : Fn := ⟨2, 2, (.cons (.ite (.not (.meth 14 (.var 0) (.cons (.var 1) .nil))) (.cons (.rais 5 (.cons (.var 1) .nil)) .nil) .nil) (.cons (.ret (.op .idx (.cons (.pkf (.var 0) 9) (.cons (.var 1) .nil)))) .nil))⟩
def c_House_backs : Fn := ⟨2, 2, (.cons (.ite (.not (.meth 14 (.var 0) (.cons (.var 1) .nil))) (.cons (.rais 5 (.cons (.var 1) .nil)) .nil) .nil) (.cons (.ret (.op .idx (.cons (.pkf (.var 0) 8) (.cons (.var 1) .nil)))) .nil))⟩
def c_House_is_sheet : Fn := ⟨2, 3, (.cons (.ite (.or (.cons (.not (.op (.isi [.inl "tuple"]) (.cons (.var 1) .nil))) (.cons (.op .ne (.cons (.op .len (.cons (.var 1) .nil)) (.cons (.op .len (.cons (.pkf (.var 0) 2) .nil)) .nil))) .nil))) (.cons (.ret (.cst (.bl false))) .nil) .nil) (.cons (.for [2] true (.rng (.cons (.op .len (.cons (.var 1) .nil)) .nil)) (.cons (.ite (.not (.op (.isi [.inl "str"]) (.cons (.op .idx (.cons (.var 1) (.cons (.var 2) .nil))) .nil))) (.cons (.ret (.cst (.bl false))) .nil) .nil) (.cons (.ite (.op .notin (.cons (.op .idx (.cons (.var 1) (.cons (.var 2) .nil))) (.cons (.pki (.pkf (.var 0) 11) (.op .idx (.cons (.pki (.pkf (.var 0) 2) (.var 2)) (.cons (.cst (.int (0))) .nil)))) .nil))) (.cons (.ret (.cst (.bl false))) .nil) .nil) .nil))) (.cons (.ret (.cst (.bl true))) .nil)))⟩
def c_House_put : Fn := ⟨4, 4, (.cons (.exp (.call f__wall (.cons (.cst (.int (2))) .nil))) .nil)⟩
def c_House_content : Fn := ⟨3, 3, (.cons (.ite (.not (.meth 17 (.var 0) (.cons (.var 1) .nil))) (.cons (.rais 6 (.cons (.var 1) .nil)) .nil) .nil) (.cons (.ite (.not (.meth 15 (.var 0) (.cons (.var 2) .nil))) (.cons (.rais 5 (.cons (.var 2) .nil)) .nil) .nil) (.cons (.ret (.op .idx (.cons (.var 1) (.cons (.op .idx (.cons (.pkf (.var 0) 12) (.cons (.var 2) .nil))) .nil)))) .nil)))⟩
def c_sewn_node : Fn := ⟨3, 3, (.cons (.ite (.and (.cons (.op .eq (.cons (.op .idx (.cons (.var 0) (.cons (.cst (.int (0))) .nil))) (.cons (.cst (.str [101, 110, 100])) .nil))) (.cons (.op .eq (.cons (.op .idx (.cons (.var 0) (.cons (.cst (.int (2))) .nil))) (.cons (.var 1) .nil))) .nil))) (.cons (.ret (.tup (.cons (.cst (.str [104, 97, 110, 100])) (.cons (.op .idx (.cons (.var 0) (.cons (.cst (.int (1))) .nil))) (.cons (.var 2) (.cons (.tup .nil) .nil)))))) .nil) .nil) (.cons (.ret (.var 0)) .nil))⟩
def c_need_different : Fn := ⟨2, 3, (.cons (.for [2] true (.var 1) (.cons (.ite (.op .isin (.cons (.var 2) (.cons (.var 0) .nil))) (.cons (.rais 7 (.cons (.var 2) .nil)) .nil) .nil) .nil)) .nil)⟩
def c_sew : Fn := ⟨3, 7, (.cons (.exp (.call f_need_different (.cons (.meth 20 (.var 0) .nil) (.cons (.meth 20 (.var 2) .nil) .nil)))) (.cons (.exp (.call f_need_different (.cons (.meth 19 (.var 0) .nil) (.cons (.meth 19 (.var 2) .nil) .nil)))) (.cons (.asg 3 (.lst .nil)) (.cons (.for [4, 5] false (.fld (.var 0) 13) (.cons (.app 3 (.tup (.cons (.var 4) (.cons (.op .tuple_ (.cons (.comp [6] [6] true (.var 5) .nil (.call f_sewn_node (.cons (.var 6) (.cons (.var 1) (.cons (.meth 18 (.var 2) .nil) .nil))))) .nil)) .nil)))) .nil)) (.cons (.ret (.make 1 (.cons (.op .add (.cons (.pkf (.var 0) 2) (.cons (.pkf (.var 2) 2) .nil))) (.cons (.op .add (.cons (.op .tuple_ (.cons (.pk 3) .nil)) (.cons (.fld (.var 2) 13) .nil))) .nil)))) .nil)))))⟩
def c__law_mixed : Fn := ⟨2, 3, (.cons (.asg 2 (.op .mod (.cons (.op .int_ (.cons (.op .add (.cons (.op .add (.cons (.op .mul (.cons (.var 0) (.cons (.cst (.int (48271))) .nil))) (.cons (.op .mul (.cons (.var 1) (.cons (.cst (.int (69621))) .nil))) .nil))) (.cons (.cst (.int (12345))) .nil))) .nil)) (.cons (.cst (.int (2147483647))) .nil)))) (.cons (.asg 2 (.op .mod (.cons (.op .int_ (.cons (.op .add (.cons (.op .add (.cons (.op .mul (.cons (.var 2) (.cons (.var 2) .nil))) (.cons (.op .mul (.cons (.var 1) (.cons (.cst (.int (40014))) .nil))) .nil))) (.cons (.cst (.int (7))) .nil))) .nil)) (.cons (.cst (.int (2147483399))) .nil)))) (.cons (.asg 2 (.op .mod (.cons (.op .int_ (.cons (.op .add (.cons (.op .add (.cons (.op .mul (.cons (.var 2) (.cons (.var 2) .nil))) (.cons (.op .fdiv (.cons (.var 2) (.cons (.cst (.int (7))) .nil))) .nil))) (.cons (.var 1) .nil))) .nil)) (.cons (.cst (.int (2147483563))) .nil)))) (.cons (.ret (.op .fdiv (.cons (.var 2) (.cons (.cst (.int (11))) .nil)))) .nil))))⟩
def c__law_draws : Fn := ⟨2, 7, (.cons (.asg 2 (.lst .nil)) (.cons (.asg 3 (.op .len (.cons (.var 0) .nil))) (.cons (.for [4] true (.var 0) (.cons (.asg 3 (.op .mod (.cons (.op .int_ (.cons (.op .add (.cons (.op .mul (.cons (.var 3) (.cons (.cst (.int (31))) .nil))) (.cons (.var 4) .nil))) .nil)) (.cons (.cst (.int (2147483647))) .nil)))) (.cons (.asg 5 (.op .abs (.cons (.var 4) .nil))) (.cons (.for [6] true (.rng (.cons (.cst (.int (60))) .nil)) (.cons (.ite (.or (.cons (.op .eq (.cons (.var 6) (.cons (.cst (.int (0))) .nil))) (.cons (.op .gt (.cons (.var 5) (.cons (.cst (.int (0))) .nil))) .nil))) (.cons (.app 2 (.op .mod (.cons (.op .int_ (.cons (.var 5) .nil)) (.cons (.cst (.int (60))) .nil)))) (.cons (.asg 5 (.op .fdiv (.cons (.var 5) (.cons (.cst (.int (60))) .nil)))) .nil)) .nil) .nil)) .nil)))) (.cons (.ite (.and (.cons (.op .gt (.cons (.op .len (.cons (.pk 2) .nil)) (.cons (.cst (.int (0))) .nil))) (.cons (.op .eq (.cons (.op .mod (.cons (.op .int_ (.cons (.pki (.pk 2) (.cst (.int (0)))) .nil)) (.cons (.cst (.int (2))) .nil))) (.cons (.cst (.int (1))) .nil))) .nil))) (.cons (.asg 2 (.lst .nil)) .nil) .nil) (.cons (.for [6] true (.rng (.cons (.var 1) .nil)) (.cons (.ite (.op .ge (.cons (.var 6) (.cons (.op .len (.cons (.pk 2) .nil)) .nil))) (.cons (.app 2 (.op .mod (.cons (.op .int_ (.cons (.call f__law_mixed (.cons (.var 3) (.cons (.var 6) .nil))) .nil)) (.cons (.cst (.int (60))) .nil)))) .nil) .nil) .nil)) (.cons (.ret (.op .slcH (.cons (.pk 2) (.cons (.var 1) .nil)))) .nil))))))⟩
def c__law_slots : Fn := ⟨2, 9, (.cons (.asg 2 (.op .idx (.cons (.fz (.lst (.cons (.lst .nil) (.cons (.lst (.cons (.cst (.int (1))) .nil)) (.cons (.lst (.cons (.cst (.int (2))) .nil)) (.cons (.lst (.cons (.cst (.int (3))) .nil)) (.cons (.lst (.cons (.cst (.int (4))) .nil)) (.cons (.lst (.cons (.cst (.int (1))) (.cons (.cst (.int (1))) .nil))) (.cons (.lst (.cons (.cst (.int (1))) (.cons (.cst (.int (2))) .nil))) (.cons (.lst (.cons (.cst (.int (2))) (.cons (.cst (.int (1))) .nil))) .nil)))))))))) (.cons (.op .mod (.cons (.op .int_ (.cons (.op .idx (.cons (.var 0) (.cons (.cst (.int (1))) .nil))) .nil)) (.cons (.cst (.int (8))) .nil))) .nil)))) (.cons (.ite (.op .eq (.cons (.var 1) (.cons (.cst (.int (3))) .nil))) (.cons (.asg 2 (.op .idx (.cons (.fz (.lst (.cons (.lst .nil) (.cons (.lst (.cons (.cst (.int (1))) .nil)) (.cons (.lst (.cons (.cst (.int (2))) .nil)) .nil))))) (.cons (.op .mod (.cons (.op .int_ (.cons (.op .idx (.cons (.var 0) (.cons (.cst (.int (1))) .nil))) .nil)) (.cons (.cst (.int (3))) .nil))) .nil)))) .nil) .nil) (.cons (.asg 3 (.op .idx (.cons (.fz (.lst (.cons (.lst (.cons (.cst (.str [116, 111, 119, 110])) (.cons (.cst (.str [100])) .nil))) (.cons (.lst (.cons (.cst (.str [100])) (.cons (.cst (.str [116, 111, 119, 110])) .nil))) .nil)))) (.cons (.op .mod (.cons (.op .int_ (.cons (.op .idx (.cons (.var 0) (.cons (.cst (.int (2))) .nil))) .nil)) (.cons (.cst (.int (2))) .nil))) .nil)))) (.cons (.asg 4 (.fz (.lst (.cons (.cst (.str [111, 115, 108, 111])) (.cons (.cst (.str [114, 111, 109, 101])) (.cons (.cst (.str [120])) (.cons (.cst (.str [108, 105, 109, 97])) .nil))))))) (.cons (.asg 5 (.op .mod (.cons (.op .int_ (.cons (.op .idx (.cons (.var 0) (.cons (.cst (.int (3))) .nil))) .nil)) (.cons (.cst (.int (4))) .nil)))) (.cons (.asg 6 (.lst .nil)) (.cons (.for [7] true (.rng (.cons (.op .len (.cons (.var 2) .nil)) .nil)) (.cons (.app 6 (.tup (.cons (.op .idx (.cons (.var 3) (.cons (.var 7) .nil))) (.cons (.op .tuple_ (.cons (.comp [8] [8] true (.rng (.cons (.op .idx (.cons (.var 2) (.cons (.var 7) .nil))) .nil)) .nil (.op .idx (.cons (.var 4) (.cons (.op .mod (.cons (.op .int_ (.cons (.op .add (.cons (.var 5) (.cons (.var 8) .nil))) .nil)) (.cons (.cst (.int (4))) .nil))) .nil)))) .nil)) .nil)))) .nil)) (.cons (.ret (.op .tuple_ (.cons (.pk 6) .nil))) .nil))))))))⟩
def c__law_names : Fn := ⟨2, 4, (.cons (.asg 2 (.fz (.lst (.cons (.cst (.str [97])) (.cons (.cst (.str [122, 101, 116, 97])) (.cons (.cst (.str [98, 50])) (.cons (.cst (.str [110])) (.cons (.cst (.str [109, 52])) (.cons (.cst (.str [104, 101, 108, 112])) (.cons (.cst (.str [107, 57, 120])) (.cons (.cst (.str [116, 111, 119, 110])) (.cons (.cst (.str [113])) .nil)))))))))))) (.cons (.ret (.comp [3] [3] true (.rng (.cons (.var 1) .nil)) .nil (.op .idx (.cons (.var 2) (.cons (.op .mod (.cons (.op .int_ (.cons (.op .add (.cons (.var 0) (.cons (.var 3) .nil))) .nil)) (.cons (.cst (.int (9))) .nil))) .nil))))) .nil))⟩
def c__law_base : Fn := ⟨2, 11, (.cons (.asg 2 (.fz (.op .add (.cons (.cst (.int (1))) (.cons (.op .mod (.cons (.op .int_ (.cons (.op .idx (.cons (.var 0) (.cons (.cst (.int (4))) .nil))) .nil)) (.cons (.cst (.int (3))) .nil))) .nil))))) (.cons (.ite (.op .eq (.cons (.var 1) (.cons (.cst (.int (3))) .nil))) (.cons (.asg 2 (.fz (.op .add (.cons (.cst (.int (1))) (.cons (.op .mod (.cons (.op .int_ (.cons (.op .idx (.cons (.var 0) (.cons (.cst (.int (4))) .nil))) .nil)) (.cons (.cst (.int (2))) .nil))) .nil))))) .nil) .nil) (.cons (.asg 3 (.op .idx (.cons (.fz (.lst (.cons (.lst (.cons (.cst (.str [109, 97, 105, 110])) (.cons (.cst (.str [100, 101, 115, 107])) (.cons (.cst (.str [99])) .nil)))) (.cons (.lst (.cons (.cst (.str [99])) (.cons (.cst (.str [109, 97, 105, 110])) (.cons (.cst (.str [100, 101, 115, 107])) .nil)))) (.cons (.lst (.cons (.cst (.str [100, 101, 115, 107])) (.cons (.cst (.str [99])) (.cons (.cst (.str [109, 97, 105, 110])) .nil)))) .nil))))) (.cons (.op .mod (.cons (.op .int_ (.cons (.op .idx (.cons (.var 0) (.cons (.cst (.int (5))) .nil))) .nil)) (.cons (.cst (.int (3))) .nil))) .nil)))) (.cons (.asg 4 (.lst .nil)) (.cons (.asg 5 (.lst .nil)) (.cons (.asg 6 (.lst .nil)) (.cons (.for [7] true (.rng (.cons (.var 2) .nil)) (.cons (.asg 8 (.fz (.lst .nil))) (.cons (.asg 9 (.op .int_ (.cons (.op .gt (.cons (.op .mod (.cons (.op .int_ (.cons (.op .idx (.cons (.var 0) (.cons (.cst (.int (11))) .nil))) .nil)) (.cons (.cst (.int (3))) .nil))) (.cons (.cst (.int (0))) .nil))) .nil))) (.cons (.ite (.op .gt (.cons (.var 7) (.cons (.cst (.int (0))) .nil))) (.cons (.asg 8 (.op .idx (.cons (.fz (.lst (.cons (.lst .nil) (.cons (.lst (.cons (.cst (.str [111, 107])) .nil)) (.cons (.lst (.cons (.cst (.str [110, 111])) (.cons (.cst (.str [111, 107])) .nil))) .nil))))) (.cons (.op .mod (.cons (.op .int_ (.cons (.op .idx (.cons (.var 0) (.cons (.op .add (.cons (.cst (.int (5))) (.cons (.var 7) .nil))) .nil))) .nil)) (.cons (.cst (.int (3))) .nil))) .nil)))) (.cons (.asg 9 (.op .len (.cons (.var 8) .nil))) .nil)) .nil) (.cons (.asg 10 (.fz (.op .add (.cons (.cst (.int (1))) (.cons (.op .mod (.cons (.op .int_ (.cons (.op .idx (.cons (.var 0) (.cons (.op .add (.cons (.cst (.int (8))) (.cons (.var 7) .nil))) .nil))) .nil)) (.cons (.cst (.int (4))) .nil))) .nil))))) (.cons (.app 4 (.var 8)) (.cons (.app 6 (.var 10)) (.cons (.app 5 (.call f__law_names (.cons (.op .fdiv (.cons (.op .int_ (.cons (.op .idx (.cons (.var 0) (.cons (.op .add (.cons (.cst (.int (8))) (.cons (.var 7) .nil))) .nil))) .nil)) (.cons (.cst (.int (4))) .nil))) (.cons (.op .add (.cons (.var 10) (.cons (.var 9) .nil))) .nil)))) .nil)))))))) (.cons (.ret (.tup (.cons (.call f__law_slots (.cons (.var 0) (.cons (.var 1) .nil))) (.cons (.op .slcH (.cons (.var 3) (.cons (.var 2) .nil))) (.cons (.frz 5) (.cons (.frz 4) (.cons (.frz 6) (.cons (.var 1) .nil)))))))) .nil))))))))⟩
def c__law_kind : Fn := ⟨5, 8, (.cons (.asg 5 (.fz (.lst (.cons (.cst (.str [115, 97, 121])) (.cons (.cst (.str [103, 111])) (.cons (.cst (.str [115, 101, 116])) (.cons (.cst (.str [116, 101, 115, 116])) (.cons (.cst (.str [97, 115, 107])) (.cons (.cst (.str [97, 115, 107])) (.cons (.cst (.str [112, 105, 99, 107])) (.cons (.cst (.str [112, 105, 99, 107])) (.cons (.cst (.str [104, 97, 110, 100])) (.cons (.cst (.str [104, 97, 110, 100])) (.cons (.cst (.str [101, 110, 100])) (.cons (.cst (.str [97, 115, 107])) .nil))))))))))))))) (.cons (.asg 6 (.op .idx (.cons (.var 5) (.cons (.op .mod (.cons (.op .int_ (.cons (.op .idx (.cons (.var 0) (.cons (.var 1) .nil))) .nil)) (.cons (.cst (.int (12))) .nil))) .nil)))) (.cons (.ite (.and (.cons (.op .eq (.cons (.op .len (.cons (.op .idx (.cons (.var 2) (.cons (.cst (.int (0))) .nil))) .nil)) (.cons (.cst (.int (0))) .nil))) (.cons (.op .isin (.cons (.var 6) (.cons (.lst (.cons (.cst (.str [115, 101, 116])) (.cons (.cst (.str [116, 101, 115, 116])) (.cons (.cst (.str [97, 115, 107])) .nil)))) .nil))) .nil))) (.cons (.asg 6 (.op .idx (.cons (.fz (.lst (.cons (.cst (.str [103, 111])) (.cons (.cst (.str [115, 97, 121])) (.cons (.cst (.str [112, 105, 99, 107])) .nil))))) (.cons (.op .index_ (.cons (.lst (.cons (.cst (.str [115, 101, 116])) (.cons (.cst (.str [116, 101, 115, 116])) (.cons (.cst (.str [97, 115, 107])) .nil)))) (.cons (.var 6) .nil))) .nil)))) .nil) .nil) (.cons (.asg 7 (.op .sub (.cons (.op .len (.cons (.op .idx (.cons (.op .idx (.cons (.var 2) (.cons (.cst (.int (2))) .nil))) (.cons (.var 3) .nil))) .nil)) (.cons (.cst (.int (1))) .nil)))) (.cons (.ite (.and (.cons (.op .isin (.cons (.op .idx (.cons (.var 2) (.cons (.cst (.int (5))) .nil))) (.cons (.lst (.cons (.cst (.int (1))) (.cons (.cst (.int (2))) .nil))) .nil))) (.cons (.op .eq (.cons (.var 4) (.cons (.cst (.int (1))) .nil))) (.cons (.op .lt (.cons (.var 4) (.cons (.var 7) .nil))) (.cons (.op .lt (.cons (.op .add (.cons (.var 3) (.cons (.cst (.int (1))) .nil))) (.cons (.op .len (.cons (.op .idx (.cons (.var 2) (.cons (.cst (.int (1))) .nil))) .nil)) .nil))) (.cons (.op .gt (.cons (.op .mod (.cons (.op .int_ (.cons (.op .idx (.cons (.var 0) (.cons (.var 1) .nil))) .nil)) (.cons (.cst (.int (3))) .nil))) (.cons (.cst (.int (0))) .nil))) .nil)))))) (.cons (.asg 6 (.cst (.str [104, 97, 110, 100]))) .nil) (.cons (.ite (.and (.cons (.op .isin (.cons (.op .idx (.cons (.var 2) (.cons (.cst (.int (5))) .nil))) (.cons (.lst (.cons (.cst (.int (1))) (.cons (.cst (.int (2))) .nil))) .nil))) (.cons (.op .eq (.cons (.var 6) (.cons (.cst (.str [104, 97, 110, 100])) .nil))) .nil))) (.cons (.asg 6 (.cst (.str [112, 105, 99, 107]))) .nil) (.cons (.ite (.and (.cons (.op .eq (.cons (.op .idx (.cons (.var 2) (.cons (.cst (.int (5))) .nil))) (.cons (.cst (.int (3))) .nil))) (.cons (.op .eq (.cons (.var 6) (.cons (.cst (.str [104, 97, 110, 100])) .nil))) (.cons (.op .eq (.cons (.op .len (.cons (.op .idx (.cons (.var 2) (.cons (.cst (.int (1))) .nil))) .nil)) (.cons (.cst (.int (1))) .nil))) .nil)))) (.cons (.asg 6 (.cst (.str [112, 105, 99, 107]))) .nil) .nil) .nil)) .nil)) (.cons (.ite (.and (.cons (.op .eq (.cons (.op .idx (.cons (.var 2) (.cons (.cst (.int (5))) .nil))) (.cons (.cst (.int (2))) .nil))) (.cons (.op .eq (.cons (.var 4) (.cons (.var 7) .nil))) (.cons (.op .notin (.cons (.var 6) (.cons (.lst (.cons (.cst (.str [97, 115, 107])) (.cons (.cst (.str [112, 105, 99, 107])) .nil))) .nil))) .nil)))) (.cons (.asg 6 (.cst (.str [101, 110, 100]))) .nil) .nil) (.cons (.ret (.var 6)) .nil)))))))⟩
def c__law_target : Fn := ⟨6, 7, (.cons (.asg 6 (.op .idx (.cons (.op .idx (.cons (.var 2) (.cons (.cst (.int (2))) .nil))) (.cons (.var 3) .nil)))) (.cons (.ite (.and (.cons (.op .eq (.cons (.op .idx (.cons (.var 2) (.cons (.cst (.int (5))) .nil))) (.cons (.cst (.int (2))) .nil))) (.cons (.op .isin (.cons (.var 5) (.cons (.lst (.cons (.cst (.str [115, 97, 121])) (.cons (.cst (.str [103, 111])) (.cons (.cst (.str [115, 101, 116])) (.cons (.cst (.str [116, 101, 115, 116])) (.cons (.cst (.str [104, 97, 110, 100])) .nil)))))) .nil))) .nil))) (.cons (.ret (.op .idx (.cons (.var 6) (.cons (.op .add (.cons (.op .add (.cons (.var 4) (.cons (.cst (.int (1))) .nil))) (.cons (.op .mod (.cons (.op .int_ (.cons (.op .idx (.cons (.var 0) (.cons (.var 1) .nil))) .nil)) (.cons (.op .sub (.cons (.op .sub (.cons (.op .len (.cons (.var 6) .nil)) (.cons (.var 4) .nil))) (.cons (.cst (.int (1))) .nil))) .nil))) .nil))) .nil)))) .nil) .nil) (.cons (.ret (.op .idx (.cons (.var 6) (.cons (.op .mod (.cons (.op .int_ (.cons (.op .idx (.cons (.var 0) (.cons (.var 1) .nil))) .nil)) (.cons (.op .len (.cons (.var 6) .nil)) .nil))) .nil)))) .nil)))⟩
def c__law_said : Fn := ⟨3, 5, (.cons (.ite (.op .eq (.cons (.op .len (.cons (.var 2) .nil)) (.cons (.cst (.int (0))) .nil))) (.cons (.ret (.op .idx (.cons (.fz (.lst (.cons (.cst (.str [72, 105, 46])) (.cons (.cst (.str [65, 32, 98])) (.cons (.cst (.str [78, 111, 119, 32, 49, 32, 43, 32, 49, 33])) .nil))))) (.cons (.op .mod (.cons (.op .int_ (.cons (.op .idx (.cons (.var 0) (.cons (.var 1) .nil))) .nil)) (.cons (.cst (.int (3))) .nil))) .nil)))) .nil) .nil) (.cons (.asg 3 (.op .idx (.cons (.op .idx (.cons (.var 2) (.cons (.op .mod (.cons (.op .int_ (.cons (.op .idx (.cons (.var 0) (.cons (.var 1) .nil))) .nil)) (.cons (.op .len (.cons (.var 2) .nil)) .nil))) .nil))) (.cons (.cst (.int (0))) .nil)))) (.cons (.asg 4 (.fz (.lst (.cons (.cst (.str [72, 105, 46])) (.cons (.op .add (.cons (.op .add (.cons (.cst (.str [83, 97, 121, 32, 60])) (.cons (.var 3) .nil))) (.cons (.cst (.str [62, 44, 32, 112, 108, 101, 97, 115, 101])) .nil))) (.cons (.op .add (.cons (.op .add (.cons (.op .add (.cons (.op .add (.cons (.cst (.str [60])) (.cons (.var 3) .nil))) (.cons (.cst (.str [62, 32, 32, 111, 114, 32, 60])) .nil))) (.cons (.op .idx (.cons (.op .idx (.cons (.var 2) (.cons (.cst (.int (0))) .nil))) (.cons (.cst (.int (0))) .nil))) .nil))) (.cons (.cst (.str [62, 63])) .nil))) .nil)))))) (.cons (.ret (.op .idx (.cons (.var 4) (.cons (.op .mod (.cons (.op .fdiv (.cons (.op .int_ (.cons (.op .idx (.cons (.var 0) (.cons (.var 1) .nil))) .nil)) (.cons (.cst (.int (2))) .nil))) (.cons (.cst (.int (3))) .nil))) .nil)))) .nil))))⟩
def c__law_arms : Fn := ⟨7, 8, (.cons (.ret (.op .tuple_ (.cons (.comp [7] [7] true (.rng (.cons (.op .len (.cons (.var 6) .nil)) .nil)) .nil (.tup (.cons (.op .idx (.cons (.var 6) (.cons (.var 7) .nil))) (.cons (.call f__law_target (.cons (.var 0) (.cons (.op .add (.cons (.op .add (.cons (.var 1) (.cons (.cst (.int (1))) .nil))) (.cons (.var 7) .nil))) (.cons (.var 2) (.cons (.var 3) (.cons (.var 4) (.cons (.var 5) .nil))))))) .nil)))) .nil))) .nil)⟩
def c__law_node : Fn := ⟨5, 19, (.cons (.asg 5 (.op .idx (.cons (.op .idx (.cons (.op .idx (.cons (.var 2) (.cons (.cst (.int (2))) .nil))) (.cons (.var 3) .nil))) (.cons (.var 4) .nil)))) (.cons (.asg 6 (.fz (.call f__law_kind (.cons (.var 0) (.cons (.var 1) (.cons (.var 2) (.cons (.var 3) (.cons (.var 4) .nil)))))))) (.cons (.asg 7 (.op .idx (.cons (.var 2) (.cons (.cst (.int (0))) .nil)))) (.cons (.asg 8 (.fz (.call f__law_target (.cons (.var 0) (.cons (.op .add (.cons (.var 1) (.cons (.cst (.int (1))) .nil))) (.cons (.var 2) (.cons (.var 3) (.cons (.var 4) (.cons (.var 6) .nil))))))))) (.cons (.asg 9 (.fz (.call f__law_target (.cons (.var 0) (.cons (.op .add (.cons (.var 1) (.cons (.cst (.int (2))) .nil))) (.cons (.var 2) (.cons (.var 3) (.cons (.var 4) (.cons (.var 6) .nil))))))))) (.cons (.ite (.op .eq (.cons (.var 6) (.cons (.cst (.str [115, 97, 121])) .nil))) (.cons (.ret (.tup (.cons (.cst (.str [115, 97, 121])) (.cons (.var 5) (.cons (.call f__law_said (.cons (.var 0) (.cons (.op .add (.cons (.var 1) (.cons (.cst (.int (3))) .nil))) (.cons (.var 7) .nil)))) (.cons (.var 8) .nil)))))) .nil) .nil) (.cons (.ite (.op .eq (.cons (.var 6) (.cons (.cst (.str [103, 111])) .nil))) (.cons (.ret (.tup (.cons (.cst (.str [103, 111])) (.cons (.var 5) (.cons (.var 8) .nil))))) .nil) .nil) (.cons (.ite (.op .eq (.cons (.var 6) (.cons (.cst (.str [101, 110, 100])) .nil))) (.cons (.ret (.tup (.cons (.cst (.str [101, 110, 100])) (.cons (.var 5) (.cons (.op .idx (.cons (.fz (.lst (.cons (.cst (.str [100, 111, 110, 101])) (.cons (.cst (.str [108, 101, 102, 116])) (.cons (.cst (.str [111, 107])) .nil))))) (.cons (.op .mod (.cons (.op .int_ (.cons (.op .idx (.cons (.var 0) (.cons (.op .add (.cons (.var 1) (.cons (.cst (.int (1))) .nil))) .nil))) .nil)) (.cons (.cst (.int (3))) .nil))) .nil))) .nil))))) .nil) .nil) (.cons (.ite (.op .eq (.cons (.var 6) (.cons (.cst (.str [112, 105, 99, 107])) .nil))) (.cons (.asg 10 (.fz (.lst (.cons (.cst (.str [121, 101, 115])) (.cons (.cst (.str [110, 111])) (.cons (.cst (.str [98])) .nil)))))) (.cons (.asg 11 (.op .mod (.cons (.op .int_ (.cons (.op .idx (.cons (.var 0) (.cons (.op .add (.cons (.var 1) (.cons (.cst (.int (4))) .nil))) .nil))) .nil)) (.cons (.cst (.int (3))) .nil)))) (.cons (.asg 10 (.fz (.comp [17] [17] true (.rng (.cons (.op .add (.cons (.cst (.int (1))) (.cons (.op .mod (.cons (.op .int_ (.cons (.op .idx (.cons (.var 0) (.cons (.op .add (.cons (.var 1) (.cons (.cst (.int (5))) .nil))) .nil))) .nil)) (.cons (.cst (.int (3))) .nil))) .nil))) .nil)) .nil (.op .idx (.cons (.var 10) (.cons (.op .mod (.cons (.op .int_ (.cons (.op .add (.cons (.var 11) (.cons (.var 17) .nil))) .nil)) (.cons (.cst (.int (3))) .nil))) .nil)))))) (.cons (.ret (.tup (.cons (.cst (.str [112, 105, 99, 107])) (.cons (.var 5) (.cons (.call f__law_arms (.cons (.var 0) (.cons (.var 1) (.cons (.var 2) (.cons (.var 3) (.cons (.var 4) (.cons (.var 6) (.cons (.var 10) .nil)))))))) .nil))))) .nil)))) .nil) (.cons (.ite (.op .eq (.cons (.var 6) (.cons (.cst (.str [104, 97, 110, 100])) .nil))) (.cons (.asg 12 (.op .mod (.cons (.op .int_ (.cons (.op .idx (.cons (.var 0) (.cons (.op .add (.cons (.var 1) (.cons (.cst (.int (3))) .nil))) .nil))) .nil)) (.cons (.op .len (.cons (.op .idx (.cons (.var 2) (.cons (.cst (.int (1))) .nil))) .nil)) .nil)))) (.cons (.ite (.op .isin (.cons (.op .idx (.cons (.var 2) (.cons (.cst (.int (5))) .nil))) (.cons (.lst (.cons (.cst (.int (1))) (.cons (.cst (.int (2))) .nil))) .nil))) (.cons (.asg 12 (.fz (.op .add (.cons (.var 3) (.cons (.cst (.int (1))) .nil))))) .nil) .nil) (.cons (.ite (.op .eq (.cons (.op .idx (.cons (.var 2) (.cons (.cst (.int (5))) .nil))) (.cons (.cst (.int (3))) .nil))) (.cons (.asg 12 (.cst (.int (1)))) .nil) .nil) (.cons (.ret (.tup (.cons (.cst (.str [104, 97, 110, 100])) (.cons (.var 5) (.cons (.op .idx (.cons (.op .idx (.cons (.var 2) (.cons (.cst (.int (1))) .nil))) (.cons (.var 12) .nil))) (.cons (.call f__law_arms (.cons (.var 0) (.cons (.var 1) (.cons (.var 2) (.cons (.var 3) (.cons (.var 4) (.cons (.var 6) (.cons (.op .idx (.cons (.op .idx (.cons (.var 2) (.cons (.cst (.int (3))) .nil))) (.cons (.var 12) .nil))) .nil)))))))) .nil)))))) .nil)))) .nil) (.cons (.asg 13 (.op .idx (.cons (.var 7) (.cons (.op .mod (.cons (.op .int_ (.cons (.op .idx (.cons (.var 0) (.cons (.op .add (.cons (.var 1) (.cons (.cst (.int (3))) .nil))) .nil))) .nil)) (.cons (.op .len (.cons (.var 7) .nil)) .nil))) .nil)))) (.cons (.asg 14 (.fz (.op .add (.cons (.lst (.cons (.cst (.str [])) .nil)) (.cons (.op .list_ (.cons (.op .idx (.cons (.var 13) (.cons (.cst (.int (1))) .nil))) .nil)) .nil))))) (.cons (.asg 15 (.op .idx (.cons (.var 14) (.cons (.op .mod (.cons (.op .int_ (.cons (.op .idx (.cons (.var 0) (.cons (.op .add (.cons (.var 1) (.cons (.cst (.int (4))) .nil))) .nil))) .nil)) (.cons (.op .len (.cons (.var 14) .nil)) .nil))) .nil)))) (.cons (.ite (.op .eq (.cons (.var 6) (.cons (.cst (.str [115, 101, 116])) .nil))) (.cons (.ret (.tup (.cons (.cst (.str [115, 101, 116])) (.cons (.var 5) (.cons (.op .idx (.cons (.var 13) (.cons (.cst (.int (0))) .nil))) (.cons (.var 15) (.cons (.var 8) .nil))))))) .nil) .nil) (.cons (.ite (.op .eq (.cons (.var 6) (.cons (.cst (.str [116, 101, 115, 116])) .nil))) (.cons (.ret (.tup (.cons (.cst (.str [116, 101, 115, 116])) (.cons (.var 5) (.cons (.op .idx (.cons (.var 13) (.cons (.cst (.int (0))) .nil))) (.cons (.var 15) (.cons (.var 8) (.cons (.var 9) .nil)))))))) .nil) .nil) (.cons (.asg 16 (.op .idx (.cons (.fz (.lst (.cons (.lst .nil) (.cons (.lst (.cons (.op .idx (.cons (.var 13) (.cons (.cst (.int (0))) .nil))) .nil)) (.cons (.comp [18] [18] true (.var 7) .nil (.op .idx (.cons (.var 18) (.cons (.cst (.int (0))) .nil)))) .nil))))) (.cons (.op .mod (.cons (.op .int_ (.cons (.op .idx (.cons (.var 0) (.cons (.op .add (.cons (.var 1) (.cons (.cst (.int (5))) .nil))) .nil))) .nil)) (.cons (.cst (.int (3))) .nil))) .nil)))) (.cons (.ret (.tup (.cons (.cst (.str [97, 115, 107])) (.cons (.var 5) (.cons (.op .idx (.cons (.var 13) (.cons (.cst (.int (0))) .nil))) (.cons (.var 8) (.cons (.var 9) (.cons (.op .tuple_ (.cons (.var 16) .nil)) .nil)))))))) .nil)))))))))))))))))⟩
def c__law_charts : Fn := ⟨2, 9, (.cons (.asg 2 (.fz (.call f__law_base (.cons (.var 0) (.cons (.var 1) .nil))))) (.cons (.asg 3 (.lst .nil)) (.cons (.for [4] true (.rng (.cons (.op .len (.cons (.op .idx (.cons (.var 2) (.cons (.cst (.int (1))) .nil))) .nil)) .nil)) (.cons (.asg 5 (.comp [8] [8] true (.rng (.cons (.op .idx (.cons (.op .idx (.cons (.var 2) (.cons (.cst (.int (4))) .nil))) (.cons (.var 4) .nil))) .nil)) .nil (.call f__law_node (.cons (.var 0) (.cons (.op .add (.cons (.op .add (.cons (.cst (.int (12))) (.cons (.op .mul (.cons (.cst (.int (24))) (.cons (.var 4) .nil))) .nil))) (.cons (.op .mul (.cons (.cst (.int (6))) (.cons (.var 8) .nil))) .nil))) (.cons (.var 2) (.cons (.var 4) (.cons (.var 8) .nil)))))))) (.cons (.asg 6 (.fz (.op .slcL (.cons (.op .idx (.cons (.op .idx (.cons (.var 2) (.cons (.cst (.int (2))) .nil))) (.cons (.var 4) .nil))) (.cons (.op .idx (.cons (.op .idx (.cons (.var 2) (.cons (.cst (.int (4))) .nil))) (.cons (.var 4) .nil))) .nil))))) (.cons (.for [7] true (.rng (.cons (.op .len (.cons (.var 6) .nil)) .nil)) (.cons (.ite (.op .eq (.cons (.var 4) (.cons (.cst (.int (0))) .nil))) (.cons (.app 5 (.tup (.cons (.cst (.str [101, 110, 100])) (.cons (.op .idx (.cons (.var 6) (.cons (.var 7) .nil))) (.cons (.op .idx (.cons (.fz (.lst (.cons (.cst (.str [100, 111, 110, 101])) (.cons (.cst (.str [108, 101, 102, 116])) (.cons (.cst (.str [111, 107])) .nil))))) (.cons (.op .mod (.cons (.op .fdiv (.cons (.op .int_ (.cons (.op .idx (.cons (.var 0) (.cons (.cst (.int (11))) .nil))) .nil)) (.cons (.cst (.int (3))) .nil))) (.cons (.cst (.int (3))) .nil))) .nil))) .nil))))) .nil) (.cons (.app 5 (.tup (.cons (.cst (.str [98, 97, 99, 107])) (.cons (.op .idx (.cons (.var 6) (.cons (.var 7) .nil))) (.cons (.op .idx (.cons (.op .idx (.cons (.op .idx (.cons (.var 2) (.cons (.cst (.int (3))) .nil))) (.cons (.var 4) .nil))) (.cons (.var 7) .nil))) .nil))))) .nil)) .nil)) (.cons (.app 3 (.tup (.cons (.op .idx (.cons (.op .idx (.cons (.var 2) (.cons (.cst (.int (1))) .nil))) (.cons (.var 4) .nil))) (.cons (.op .tuple_ (.cons (.pk 5) .nil)) .nil)))) .nil))))) (.cons (.ret (.op .tuple_ (.cons (.pk 3) .nil))) .nil))))⟩
def c__law_same : Fn := ⟨2, 3, (.cons (.ite (.op .is_ (.cons (.var 1) (.cons (.cst .non) .nil))) (.cons (.ret (.op .is_ (.cons (.var 0) (.cons (.cst .non) .nil)))) .nil) .nil) (.cons (.ite (.op .is_ (.cons (.var 1) (.cons (.cst (.bl true)) .nil))) (.cons (.ret (.op .is_ (.cons (.var 0) (.cons (.cst (.bl true)) .nil)))) .nil) .nil) (.cons (.ite (.op .is_ (.cons (.var 1) (.cons (.cst (.bl false)) .nil))) (.cons (.ret (.op .is_ (.cons (.var 0) (.cons (.cst (.bl false)) .nil)))) .nil) .nil) (.cons (.ite (.op (.isi [.inl "str"]) (.cons (.var 1) .nil)) (.cons (.ret (.and (.cons (.op (.isi [.inl "str"]) (.cons (.var 0) .nil)) (.cons (.op .eq (.cons (.var 0) (.cons (.var 1) .nil))) .nil)))) .nil) .nil) (.cons (.ite (.op (.isi [.inl "int"]) (.cons (.var 1) .nil)) (.cons (.ret (.and (.cons (.op (.isi [.inl "int"]) (.cons (.var 0) .nil)) (.cons (.not (.op (.isi [.inl "bool"]) (.cons (.var 0) .nil))) (.cons (.op .eq (.cons (.var 0) (.cons (.var 1) .nil))) .nil))))) .nil) .nil) (.cons (.ite (.and (.cons (.op (.isi [.inl "tuple"]) (.cons (.var 1) .nil)) (.cons (.not (.op (.isi [.inl "tuple"]) (.cons (.var 0) .nil))) .nil))) (.cons (.ret (.cst (.bl false))) .nil) .nil) (.cons (.ite (.and (.cons (.op (.isi [.inl "list"]) (.cons (.var 1) .nil)) (.cons (.not (.op (.isi [.inl "list"]) (.cons (.var 0) .nil))) .nil))) (.cons (.ret (.cst (.bl false))) .nil) .nil) (.cons (.ite (.op .ne (.cons (.op .len (.cons (.var 0) .nil)) (.cons (.op .len (.cons (.var 1) .nil)) .nil))) (.cons (.ret (.cst (.bl false))) .nil) .nil) (.cons (.for [2] true (.rng (.cons (.op .len (.cons (.var 1) .nil)) .nil)) (.cons (.ite (.not (.call f__law_same (.cons (.op .idx (.cons (.var 0) (.cons (.var 2) .nil))) (.cons (.op .idx (.cons (.var 1) (.cons (.var 2) .nil))) .nil)))) (.cons (.ret (.cst (.bl false))) .nil) .nil) .nil)) (.cons (.ret (.cst (.bl true))) .nil))))))))))⟩
def c__law_new : Fn := ⟨2, 3, (.cons (.for [2] true (.var 0) (.cons (.ite (.op .eq (.cons (.op .idx (.cons (.var 2) (.cons (.cst (.int (0))) .nil))) (.cons (.var 1) .nil))) (.cons (.ret (.op .idx (.cons (.var 2) (.cons (.cst (.int (1))) .nil)))) .nil) .nil) .nil)) (.cons (.ret (.var 1)) .nil))⟩
def c__law_new_text : Fn := ⟨2, 5, (.cons (.asg 2 (.lst .nil)) (.cons (.for [3] true (.op .split_ (.cons (.var 1) (.cons (.cst (.str [60])) .nil))) (.cons (.asg 4 (.fz (.op .split_ (.cons (.var 3) (.cons (.cst (.str [62])) .nil))))) (.cons (.ite (.op .eq (.cons (.op .len (.cons (.var 4) .nil)) (.cons (.cst (.int (2))) .nil))) (.cons (.app 2 (.op .add (.cons (.op .add (.cons (.call f__law_new (.cons (.var 0) (.cons (.op .idx (.cons (.var 4) (.cons (.cst (.int (0))) .nil))) .nil))) (.cons (.cst (.str [62])) .nil))) (.cons (.op .idx (.cons (.var 4) (.cons (.cst (.int (1))) .nil))) .nil)))) .nil) (.cons (.app 2 (.var 3)) .nil)) .nil))) (.cons (.ret (.op .join_ (.cons (.cst (.str [60])) (.cons (.pk 2) .nil)))) .nil)))⟩
def c__law_new_node : Fn := ⟨3, 6, (.cons (.asg 3 (.op .idx (.cons (.var 2) (.cons (.cst (.int (0))) .nil)))) (.cons (.ite (.op .eq (.cons (.var 3) (.cons (.cst (.str [115, 97, 121])) .nil))) (.cons (.ret (.tup (.cons (.cst (.str [115, 97, 121])) (.cons (.op .idx (.cons (.var 2) (.cons (.cst (.int (1))) .nil))) (.cons (.call f__law_new_text (.cons (.var 0) (.cons (.op .idx (.cons (.var 2) (.cons (.cst (.int (2))) .nil))) .nil))) (.cons (.op .idx (.cons (.var 2) (.cons (.cst (.int (3))) .nil))) .nil)))))) .nil) .nil) (.cons (.ite (.op .isin (.cons (.var 3) (.cons (.lst (.cons (.cst (.str [115, 101, 116])) (.cons (.cst (.str [116, 101, 115, 116])) .nil))) .nil))) (.cons (.ret (.op .add (.cons (.op .add (.cons (.op .slcH (.cons (.var 2) (.cons (.cst (.int (2))) .nil))) (.cons (.tup (.cons (.call f__law_new (.cons (.var 0) (.cons (.op .idx (.cons (.var 2) (.cons (.cst (.int (2))) .nil))) .nil))) .nil)) .nil))) (.cons (.op .slcL (.cons (.var 2) (.cons (.cst (.int (3))) .nil))) .nil)))) .nil) .nil) (.cons (.ite (.op .eq (.cons (.var 3) (.cons (.cst (.str [97, 115, 107])) .nil))) (.cons (.asg 4 (.op .tuple_ (.cons (.comp [5] [5] true (.op .idx (.cons (.var 2) (.cons (.cst (.int (5))) .nil))) .nil (.call f__law_new (.cons (.var 0) (.cons (.var 5) .nil)))) .nil))) (.cons (.ret (.tup (.cons (.cst (.str [97, 115, 107])) (.cons (.op .idx (.cons (.var 2) (.cons (.cst (.int (1))) .nil))) (.cons (.call f__law_new (.cons (.var 0) (.cons (.op .idx (.cons (.var 2) (.cons (.cst (.int (2))) .nil))) .nil))) (.cons (.op .idx (.cons (.var 2) (.cons (.cst (.int (3))) .nil))) (.cons (.op .idx (.cons (.var 2) (.cons (.cst (.int (4))) .nil))) (.cons (.var 4) .nil)))))))) .nil)) .nil) (.cons (.ite (.op .eq (.cons (.var 3) (.cons (.cst (.str [104, 97, 110, 100])) .nil))) (.cons (.ret (.tup (.cons (.cst (.str [104, 97, 110, 100])) (.cons (.op .idx (.cons (.var 2) (.cons (.cst (.int (1))) .nil))) (.cons (.call f__law_new (.cons (.var 1) (.cons (.op .idx (.cons (.var 2) (.cons (.cst (.int (2))) .nil))) .nil))) (.cons (.op .idx (.cons (.var 2) (.cons (.cst (.int (3))) .nil))) .nil)))))) .nil) .nil) (.cons (.ret (.var 2)) .nil))))))⟩
def c__law_renamed : Fn := ⟨3, 8, (.cons (.asg 3 (.lst .nil)) (.cons (.for [4] true (.op .idx (.cons (.var 0) (.cons (.cst (.int (1))) .nil))) (.cons (.asg 5 (.fz (.comp [6] [6] true (.op .idx (.cons (.var 4) (.cons (.cst (.int (1))) .nil))) .nil (.call f__law_new_node (.cons (.var 1) (.cons (.var 2) (.cons (.var 6) .nil))))))) (.cons (.app 3 (.tup (.cons (.call f__law_new (.cons (.var 2) (.cons (.op .idx (.cons (.var 4) (.cons (.cst (.int (0))) .nil))) .nil))) (.cons (.op .tuple_ (.cons (.var 5) .nil)) .nil)))) .nil))) (.cons (.ret (.tup (.cons (.op .tuple_ (.cons (.comp [7] [7] true (.op .idx (.cons (.var 0) (.cons (.cst (.int (0))) .nil))) .nil (.tup (.cons (.call f__law_new (.cons (.var 1) (.cons (.op .idx (.cons (.var 7) (.cons (.cst (.int (0))) .nil))) .nil))) (.cons (.op .idx (.cons (.var 7) (.cons (.cst (.int (1))) .nil))) .nil)))) .nil)) (.cons (.op .tuple_ (.cons (.pk 3) .nil)) .nil)))) .nil)))⟩
def c__law_sewn : Fn := ⟨3, 7, (.cons (.asg 3 (.lst .nil)) (.cons (.for [4] true (.op .idx (.cons (.var 0) (.cons (.cst (.int (1))) .nil))) (.cons (.asg 5 (.lst .nil)) (.cons (.for [6] true (.op .idx (.cons (.var 4) (.cons (.cst (.int (1))) .nil))) (.cons (.ite (.and (.cons (.op .eq (.cons (.op .idx (.cons (.var 6) (.cons (.cst (.int (0))) .nil))) (.cons (.cst (.str [101, 110, 100])) .nil))) (.cons (.op .eq (.cons (.op .idx (.cons (.var 6) (.cons (.cst (.int (2))) .nil))) (.cons (.var 1) .nil))) .nil))) (.cons (.app 5 (.tup (.cons (.cst (.str [104, 97, 110, 100])) (.cons (.op .idx (.cons (.var 6) (.cons (.cst (.int (1))) .nil))) (.cons (.op .idx (.cons (.op .idx (.cons (.op .idx (.cons (.var 2) (.cons (.cst (.int (1))) .nil))) (.cons (.cst (.int (0))) .nil))) (.cons (.cst (.int (0))) .nil))) (.cons (.tup .nil) .nil)))))) .nil) (.cons (.app 5 (.var 6)) .nil)) .nil)) (.cons (.app 3 (.tup (.cons (.op .idx (.cons (.var 4) (.cons (.cst (.int (0))) .nil))) (.cons (.op .tuple_ (.cons (.pk 5) .nil)) .nil)))) .nil)))) (.cons (.ret (.tup (.cons (.op .add (.cons (.op .idx (.cons (.var 0) (.cons (.cst (.int (0))) .nil))) (.cons (.op .idx (.cons (.var 2) (.cons (.cst (.int (0))) .nil))) .nil))) (.cons (.op .add (.cons (.op .tuple_ (.cons (.pk 3) .nil)) (.cons (.op .idx (.cons (.var 2) (.cons (.cst (.int (1))) .nil))) .nil))) .nil)))) .nil)))⟩
def c__law_due : Fn := ⟨3, 7, (.cons (.asg 3 (.fz (.comp [4] [4] true (.op .idx (.cons (.var 0) (.cons (.cst (.int (0))) .nil))) .nil (.op .idx (.cons (.var 4) (.cons (.cst (.int (0))) .nil)))))) (.cons (.for [4] true (.op .idx (.cons (.var 2) (.cons (.cst (.int (0))) .nil))) (.cons (.ite (.op .isin (.cons (.op .idx (.cons (.var 4) (.cons (.cst (.int (0))) .nil))) (.cons (.var 3) .nil))) (.cons (.ret (.tup (.cons (.cst (.str [110, 97, 109, 101])) (.cons (.op .idx (.cons (.var 4) (.cons (.cst (.int (0))) .nil))) .nil)))) .nil) .nil) .nil)) (.cons (.asg 3 (.fz (.comp [5] [5] true (.op .idx (.cons (.var 0) (.cons (.cst (.int (1))) .nil))) .nil (.op .idx (.cons (.var 5) (.cons (.cst (.int (0))) .nil)))))) (.cons (.for [5] true (.op .idx (.cons (.var 2) (.cons (.cst (.int (1))) .nil))) (.cons (.ite (.op .isin (.cons (.op .idx (.cons (.var 5) (.cons (.cst (.int (0))) .nil))) (.cons (.var 3) .nil))) (.cons (.ret (.tup (.cons (.cst (.str [110, 97, 109, 101])) (.cons (.op .idx (.cons (.var 5) (.cons (.cst (.int (0))) .nil))) .nil)))) .nil) .nil) .nil)) (.cons (.ite (.op .gt (.cons (.op .add (.cons (.op .len (.cons (.op .idx (.cons (.var 0) (.cons (.cst (.int (0))) .nil))) .nil)) (.cons (.op .len (.cons (.op .idx (.cons (.var 2) (.cons (.cst (.int (0))) .nil))) .nil)) .nil))) (.cons (.cst (.int (4))) .nil))) (.cons (.ret (.tup (.cons (.cst (.str [102, 97, 117, 108, 116])) (.cons (.cst (.str [115, 108, 111, 116, 115])) (.cons (.tup .nil) .nil))))) .nil) .nil) (.cons (.ite (.op .gt (.cons (.op .add (.cons (.op .len (.cons (.op .idx (.cons (.var 0) (.cons (.cst (.int (1))) .nil))) .nil)) (.cons (.op .len (.cons (.op .idx (.cons (.var 2) (.cons (.cst (.int (1))) .nil))) .nil)) .nil))) (.cons (.cst (.int (6))) .nil))) (.cons (.ret (.tup (.cons (.cst (.str [102, 97, 117, 108, 116])) (.cons (.cst (.str [99, 104, 97, 114, 116, 115])) (.cons (.tup .nil) .nil))))) .nil) .nil) (.cons (.asg 6 (.fz (.call f__law_sewn (.cons (.var 0) (.cons (.var 1) (.cons (.var 2) .nil)))))) (.cons (.ret (.tup (.cons (.cst (.str [115, 101, 119, 110])) (.cons (.op .idx (.cons (.var 6) (.cons (.cst (.int (0))) .nil))) (.cons (.op .idx (.cons (.var 6) (.cons (.cst (.int (1))) .nil))) .nil))))) .nil))))))))⟩
def c__law_answer : Fn := ⟨3, 5, (.cons (.try_ (.cons (.asg 3 (.fz (.call f_sew (.cons (.var 0) (.cons (.var 1) (.cons (.var 2) .nil)))))) .nil) 2 (some 4) (.ifr (.and (.exi 7) (.not (.exi 4))) (.tup2 (.cst (.str [110, 97, 109, 101])) (.exf 21)) (.ifr (.and (.exi 4) (.not (.exi 7))) (.tup3 (.cst (.str [102, 97, 117, 108, 116])) (.exf 22) (.exf 23)) (.ret (.tup2 (.cst (.str [111, 116, 104, 101, 114])) (.cst .non)))))) (.cons (.ite (.not (.op (.isi [.inr 1]) (.cons (.var 3) .nil))) (.cons (.ret (.tup (.cons (.cst (.str [111, 116, 104, 101, 114])) (.cons (.cst .non) .nil)))) .nil) .nil) (.cons (.ret (.tup (.cons (.cst (.str [115, 101, 119, 110])) (.cons (.fld (.var 3) 2) (.cons (.fld (.var 3) 13) .nil))))) .nil)))⟩
def c_law : Fn := ⟨1, 16, (.cons (.asg 1 (.fz (.call f__law_draws (.cons (.var 0) (.cons (.cst (.int (210))) .nil))))) (.cons (.asg 2 (.fz (.op .slcL (.cons (.var 1) (.cons (.cst (.int (100))) .nil))))) (.cons (.asg 3 (.fz (.call f__law_slots (.cons (.var 1) (.cons (.cst (.int (0))) .nil))))) (.cons (.asg 4 (.op .mod (.cons (.op .int_ (.cons (.op .idx (.cons (.var 1) (.cons (.cst (.int (84))) .nil))) .nil)) (.cons (.cst (.int (6))) .nil)))) (.cons (.ite (.op .lt (.cons (.var 4) (.cons (.cst (.int (3))) .nil))) (.cons (.asg 3 (.fz (.op .add (.cons (.var 3) (.cons (.op .slcH (.cons (.tup (.cons (.tup (.cons (.cst (.str [101, 49])) (.cons (.tup (.cons (.cst (.str [120])) (.cons (.cst (.str [121])) .nil))) .nil))) (.cons (.tup (.cons (.cst (.str [101, 50])) (.cons (.tup (.cons (.cst (.str [120])) .nil)) .nil))) .nil))) (.cons (.var 4) .nil))) .nil))))) .nil) .nil) (.cons (.asg 5 (.fz (.call f__law_charts (.cons (.var 1) (.cons (.cst (.int (0))) .nil))))) (.cons (.asg 4 (.op .mod (.cons (.op .int_ (.cons (.op .idx (.cons (.var 1) (.cons (.cst (.int (85))) .nil))) .nil)) (.cons (.cst (.int (8))) .nil)))) (.cons (.ite (.op .lt (.cons (.var 4) (.cons (.cst (.int (4))) .nil))) (.cons (.asg 6 (.tup (.cons (.tup (.cons (.cst (.str [112, 49])) (.cons (.tup (.cons (.tup (.cons (.cst (.str [101, 110, 100])) (.cons (.cst (.str [122])) (.cons (.cst (.str [100, 111, 110, 101])) .nil)))) .nil)) .nil))) (.cons (.tup (.cons (.cst (.str [112, 50])) (.cons (.tup (.cons (.tup (.cons (.cst (.str [103, 111])) (.cons (.cst (.str [97])) (.cons (.cst (.str [97])) .nil)))) .nil)) .nil))) (.cons (.tup (.cons (.cst (.str [112, 51])) (.cons (.tup (.cons (.tup (.cons (.cst (.str [98, 97, 99, 107])) (.cons (.cst (.str [98])) (.cons (.cst (.str [111, 107])) .nil)))) .nil)) .nil))) .nil))))) (.cons (.asg 5 (.fz (.op .add (.cons (.var 5) (.cons (.op .slcH (.cons (.var 6) (.cons (.var 4) .nil))) .nil))))) .nil)) .nil) (.cons (.asg 7 (.tup (.cons (.var 3) (.cons (.var 5) .nil)))) (.cons (.asg 8 (.fz (.lst (.cons (.cst (.str [50])) (.cons (.cst (.str [50])) (.cons (.cst (.str [122])) (.cons (.cst (.str [])) .nil))))))) (.cons (.asg 9 (.fz (.lst (.cons (.tup (.cons (.cst (.str [116, 111, 119, 110])) (.cons (.op .add (.cons (.cst (.str [116, 111, 119, 110])) (.cons (.op .idx (.cons (.var 8) (.cons (.op .mod (.cons (.op .int_ (.cons (.op .idx (.cons (.var 1) (.cons (.cst (.int (86))) .nil))) .nil)) (.cons (.cst (.int (4))) .nil))) .nil))) .nil))) .nil))) (.cons (.tup (.cons (.cst (.str [100])) (.cons (.op .add (.cons (.cst (.str [100])) (.cons (.op .idx (.cons (.var 8) (.cons (.op .mod (.cons (.op .int_ (.cons (.op .idx (.cons (.var 1) (.cons (.cst (.int (87))) .nil))) .nil)) (.cons (.cst (.int (4))) .nil))) .nil))) .nil))) .nil))) .nil))))) (.cons (.asg 10 (.lst (.cons (.tup (.cons (.cst (.str [109, 97, 105, 110])) (.cons (.op .add (.cons (.cst (.str [109, 97, 105, 110])) (.cons (.op .idx (.cons (.var 8) (.cons (.op .mod (.cons (.op .int_ (.cons (.op .idx (.cons (.var 1) (.cons (.cst (.int (88))) .nil))) .nil)) (.cons (.cst (.int (4))) .nil))) .nil))) .nil))) .nil))) (.cons (.tup (.cons (.cst (.str [100, 101, 115, 107])) (.cons (.op .add (.cons (.cst (.str [100, 101, 115, 107])) (.cons (.op .idx (.cons (.var 8) (.cons (.op .mod (.cons (.op .int_ (.cons (.op .idx (.cons (.var 1) (.cons (.cst (.int (89))) .nil))) .nil)) (.cons (.cst (.int (4))) .nil))) .nil))) .nil))) .nil))) .nil)))) (.cons (.app 10 (.tup (.cons (.cst (.str [99])) (.cons (.op .add (.cons (.cst (.str [99])) (.cons (.op .idx (.cons (.var 8) (.cons (.op .mod (.cons (.op .int_ (.cons (.op .idx (.cons (.var 1) (.cons (.cst (.int (90))) .nil))) .nil)) (.cons (.cst (.int (4))) .nil))) .nil))) .nil))) .nil)))) (.cons (.asg 11 (.fz (.call f__law_renamed (.cons (.tup (.cons (.call f__law_slots (.cons (.var 2) (.cons (.cst (.int (0))) .nil))) (.cons (.call f__law_charts (.cons (.var 2) (.cons (.cst (.int (0))) .nil))) .nil))) (.cons (.var 9) (.cons (.frz 10) .nil)))))) (.cons (.asg 12 (.fz (.lst (.cons (.cst (.str [100, 111, 110, 101])) (.cons (.cst (.str [108, 101, 102, 116])) (.cons (.cst (.str [111, 107])) (.cons (.cst (.str [100, 111, 110, 101])) (.cons (.cst (.str [108, 101, 102, 116])) (.cons (.cst (.str [111, 107])) (.cons (.cst (.str [122, 122])) (.cons (.cst (.str [])) (.cons (.cst .non) (.cons (.cst (.int (5))) (.cons (.cst (.bl true)) (.cons (.tup (.cons (.cst (.str [100, 111, 110, 101])) .nil)) (.cons (.lst (.cons (.cst (.str [100, 111, 110, 101])) .nil)) (.cons (.lst (.cons (.cst (.str [108, 101, 102, 116])) .nil)) (.cons (.tup .nil) .nil)))))))))))))))))) (.cons (.asg 13 (.op .idx (.cons (.var 12) (.cons (.op .mod (.cons (.op .int_ (.cons (.op .idx (.cons (.var 1) (.cons (.cst (.int (91))) .nil))) .nil)) (.cons (.cst (.int (15))) .nil))) .nil)))) (.cons (.asg 14 (.make 1 (.cons (.op .idx (.cons (.var 7) (.cons (.cst (.int (0))) .nil))) (.cons (.op .idx (.cons (.var 7) (.cons (.cst (.int (1))) .nil))) .nil)))) (.cons (.asg 15 (.make 1 (.cons (.op .idx (.cons (.var 11) (.cons (.cst (.int (0))) .nil))) (.cons (.op .idx (.cons (.var 11) (.cons (.cst (.int (1))) .nil))) .nil)))) (.cons (.ite (.not (.call f__law_same (.cons (.call f__law_answer (.cons (.var 14) (.cons (.var 13) (.cons (.var 15) .nil)))) (.cons (.call f__law_due (.cons (.var 7) (.cons (.var 13) (.cons (.var 11) .nil)))) .nil)))) (.cons (.ret (.cst (.bl false))) .nil) .nil) (.cons (.ite (.or (.cons (.not (.call f__law_same (.cons (.tup (.cons (.fld (.var 14) 2) (.cons (.fld (.var 14) 13) .nil))) (.cons (.var 7) .nil)))) (.cons (.not (.call f__law_same (.cons (.tup (.cons (.fld (.var 15) 2) (.cons (.fld (.var 15) 13) .nil))) (.cons (.var 11) .nil)))) .nil))) (.cons (.ret (.cst (.bl false))) .nil) .nil) (.cons (.ret (.call f__law_same (.cons (.call f__law_answer (.cons (.var 15) (.cons (.var 13) (.cons (.var 14) .nil)))) (.cons (.call f__law_due (.cons (.var 11) (.cons (.var 13) (.cons (.var 7) .nil)))) .nil)))) .nil)))))))))))))))))))))⟩
@[simp] def a_backs : Nat := 0
@[simp] def a_nodes : Nat := 1
@[simp] def a_slots : Nat := 2
@[simp] def a_check_slot : Nat := 3
@[simp] def a_check_next : Nat := 4
@[simp] def a_check_content : Nat := 5
@[simp] def a_check_hand : Nat := 6
@[simp] def a_check_node : Nat := 7
@[simp] def a__backs : Nat := 8
@[simp] def a__firsts : Nat := 9
@[simp] def a__nodes : Nat := 10
@[simp] def a__contents : Nat := 11
@[simp] def a__places : Nat := 12
@[simp] def a_charts : Nat := 13
@[simp] def a_has_chart : Nat := 14
@[simp] def a_has_slot : Nat := 15
@[simp] def a_has_node : Nat := 16
@[simp] def a_is_sheet : Nat := 17
@[simp] def a_main : Nat := 18
@[simp] def a_chart_names : Nat := 19
@[simp] def a_slot_names : Nat := 20
@[simp] def a_name : Nat := 21
@[simp] def a_reason : Nat := 22
@[simp] def a_place : Nat := 23
@[simp] def a_index : Nat := 24
@[simp] def a_sheet : Nat := 25
@[simp] def k_Links : Nat := 0
@[simp] def k_House : Nat := 1
@[simp] def k_TalkError : Nat := 2
@[simp] def k_BadText : Nat := 3
@[simp] def k_BadHouse : Nat := 4
@[simp] def k_Unknown : Nat := 5
@[simp] def k_BadSheet : Nat := 6
@[simp] def k_BadName : Nat := 7
def fnT : List Fn := [c__wall, c_is_word, c_is_text, c_pieces, c_is_sound, c_places, c_are_different, c_are_words, c_is_content, c_are_arms, c_has_parts, c_is_node, c_check_slots, c_check_nodes, c_check_charts, c_back_words, c_Links___init__, c_Links_check_slot, c_Links_check_content, c_Links_check_next, c_Links_check_hand, c_Links_check_node, c_check_links, c_House___init__, c_House_main, c_House_empty, c_House_slot_names, c_House_has_slot, c_House_has_chart, c_House_has_node, c_House_contents, c_House_slot_at, c_House_chart_names, c_House_node_names, c_House_node, c_House_first, c_House_backs, c_House_is_sheet, c_House_put, c_House_content, c_sewn_node, c_need_different, c_sew, c__law_mixed, c__law_draws, c__law_slots, c__law_names, c__law_base, c__law_kind, c__law_target, c__law_said, c__law_arms, c__law_node, c__law_charts, c__law_same, c__law_new, c__law_new_text, c__law_new_node, c__law_renamed, c__law_sewn, c__law_due, c__law_answer, c_law]
def clT : List Cl := [⟨f_Links___init__, [(3, f_Links_check_slot), (5, f_Links_check_content), (4, f_Links_check_next), (6, f_Links_check_hand), (7, f_Links_check_node)], [2, 1, 0]⟩, ⟨f_House___init__, [(18, f_House_main), (20, f_House_slot_names), (15, f_House_has_slot), (14, f_House_has_chart), (16, f_House_has_node), (19, f_House_chart_names), (0, f_House_backs), (17, f_House_is_sheet)], [2, 13, 12, 11, 10, 9, 8]⟩]
def v_MAX_SLOTS : D := (.int (4))
def v_MAX_VALUES : D := (.int (4))
def v_MAX_CHARTS : D := (.int (6))
def v_MAX_NODES : D := (.int (40))
def v_MAX_ARMS : D := (.int (4))
def v_LETTERS : D := (.str [97, 98, 99, 100, 101, 102, 103, 104, 105, 106, 107, 108, 109, 110, 111, 112, 113, 114, 115, 116, 117, 118, 119, 120, 121, 122])
def v_DIGITS : D := (.str [48, 49, 50, 51, 52, 53, 54, 55, 56, 57])
def v_SIGNS : D := (.str [32, 33, 34, 35, 36, 38, 39, 40, 41, 42, 43, 44, 45, 46, 47, 48, 49, 50, 51, 52, 53, 54, 55, 56, 57, 58, 59, 60, 61, 62, 63, 64, 65, 66, 67, 68, 69, 70, 71, 72, 73, 74, 75, 76, 77, 78, 79, 80, 81, 82, 83, 84, 85, 86, 87, 88, 89, 90, 91, 92, 93, 94, 95, 96, 97, 98, 99, 100, 101, 102, 103, 104, 105, 106, 107, 108, 109, 110, 111, 112, 113, 114, 115, 116, 117, 118, 119, 120, 121, 122, 123, 124, 125, 126])
def v_MAX_WORD : D := (.int (12))
def v_MAX_SAID : D := (.int (60))
def v_KINDS : D := (.tup [(.str [115, 97, 121]), (.str [103, 111]), (.str [115, 101, 116]), (.str [116, 101, 115, 116]), (.str [97, 115, 107]), (.str [112, 105, 99, 107]), (.str [104, 97, 110, 100]), (.str [98, 97, 99, 107]), (.str [101, 110, 100])])
def v_LENGTHS : D := (.dct [((.str [115, 97, 121]), (.int (4))), ((.str [103, 111]), (.int (3))), ((.str [115, 101, 116]), (.int (5))), ((.str [116, 101, 115, 116]), (.int (6))), ((.str [97, 115, 107]), (.int (6))), ((.str [112, 105, 99, 107]), (.int (3))), ((.str [104, 97, 110, 100]), (.int (4))), ((.str [98, 97, 99, 107]), (.int (3))), ((.str [101, 110, 100]), (.int (3)))])
def glT : List D := [v_MAX_SLOTS, v_MAX_VALUES, v_MAX_CHARTS, v_MAX_NODES, v_MAX_ARMS, v_LETTERS, v_DIGITS, v_SIGNS, v_MAX_WORD, v_MAX_SAID, v_KINDS, v_LENGTHS]
def supT : List (Nat × Nat) := [(2, 2), (3, 2), (3, 3), (4, 2), (4, 4), (5, 2), (5, 5), (6, 2), (6, 6), (7, 2), (7, 7)]
def xfT : List (Nat × List Nat) := [(2, []), (3, [24]), (4, [22, 23]), (5, [21]), (6, [25]), (7, [21])]
def PG : Prog := ⟨fun i => fnT[i]?, fun i => clT[i]?, fun i => glT[i]?, fun a b => supT.elem (a, b), fun a b => a == b, fun i => (xfT.lookup i).getD []⟩
abbrev lawIx : Nat := f_law
end Tk.K61
/- K61C -/
set_option Elab.async false
set_option linter.all false
set_option maxRecDepth 100000
set_option maxHeartbeats 0
namespace Tk.K61
open PySem
def body : List Stmt := PySem.Challenge.pw_talkchart_k61_houses_sewn.main.body
def st (i : Nat) : Stmt := body.getD i (.Pass ⟨0, 0, 0, 0⟩)
def ist (i j : Nat) : Stmt := L2.inClass (st i) j
def n__wall : List Str := ["k"]
def s__wall : Stmt := st 0
def n_is_word : List Str := ["value", "char"]
def s_is_word : Stmt := st 19
def n_is_text : List Str := ["value", "char"]
def s_is_text : Stmt := st 20
def n_pieces : List Str := ["text", "found", "start", "at", "close"]
def s_pieces : Stmt := st 21
def n_is_sound : List Str := ["text"]
def s_is_sound : Stmt := st 22
def n_places : List Str := ["text", "piece"]
def s_places : Stmt := st 23
def n_are_different : List Str := ["values", "k"]
def s_are_different : Stmt := st 24
def n_are_words : List Str := ["value", "word"]
def s_are_words : Stmt := st 25
def n_is_content : List Str := ["value"]
def s_is_content : Stmt := st 29
def n_are_arms : List Str := ["value", "least", "arm"]
def s_are_arms : Stmt := st 30
def n_has_parts : List Str := ["node", "kind"]
def s_has_parts : Stmt := st 31
def n_is_node : List Str := ["value", "kind"]
def s_is_node : Stmt := st 32
def n_check_slots : List Str := ["slots", "names", "i", "slot"]
def s_check_slots : Stmt := st 34
def n_check_nodes : List Str := ["nodes", "j", "names", "k"]
def s_check_nodes : Stmt := st 35
def n_check_charts : List Str := ["charts", "names", "j", "chart"]
def s_check_charts : Stmt := st 36
def n_back_words : List Str := ["nodes", "words", "node"]
def s_back_words : Stmt := st 37
def n_Links___init__ : List Str := ["self", "slots", "charts", "name", "row", "nodes", "node"]
def s_Links___init__ : Stmt := ist 38 0
def n_Links_check_slot : List Str := ["self", "slot", "place"]
def s_Links_check_slot : Stmt := ist 38 1
def n_Links_check_content : List Str := ["self", "slot", "content", "place"]
def s_Links_check_content : Stmt := ist 38 2
def n_Links_check_next : List Str := ["self", "chart", "names", "place", "name"]
def s_Links_check_next : Stmt := ist 38 3
def n_Links_check_hand : List Str := ["self", "node", "place", "arm"]
def s_Links_check_hand : Stmt := ist 38 4
def n_Links_check_node : List Str := ["self", "chart", "node", "place", "is_main", "kind", "slot", "arm"]
def s_Links_check_node : Stmt := ist 38 5
def n_check_links : List Str := ["slots", "charts", "links", "j", "name", "nodes", "k"]
def s_check_links : Stmt := st 39
def n_House___init__ : List Str := ["self", "slots", "charts", "at", "name", "nodes", "table", "node"]
def s_House___init__ : Stmt := ist 40 0
def n_House_main : List Str := ["self"]
def s_House_main : Stmt := ist 40 1
def n_House_empty : List Str := ["self", "slot"]
def s_House_empty : Stmt := ist 40 2
def n_House_slot_names : List Str := ["self", "slot"]
def s_House_slot_names : Stmt := ist 40 3
def n_House_has_slot : List Str := ["self", "slot"]
def s_House_has_slot : Stmt := ist 40 4
def n_House_has_chart : List Str := ["self", "chart"]
def s_House_has_chart : Stmt := ist 40 5
def n_House_has_node : List Str := ["self", "chart", "name"]
def s_House_has_node : Stmt := ist 40 6
def n_House_contents : List Str := ["self", "slot"]
def s_House_contents : Stmt := ist 40 7
def n_House_slot_at : List Str := ["self", "slot"]
def s_House_slot_at : Stmt := ist 40 8
def n_House_chart_names : List Str := ["self", "chart"]
def s_House_chart_names : Stmt := ist 40 9
def n_House_node_names : List Str := ["self", "chart"]
def s_House_node_names : Stmt := ist 40 10
def n_House_node : List Str := ["self", "chart", "name"]
def s_House_node : Stmt := ist 40 11
def n_House_first : List Str := ["self", "chart"]
def s_House_first : Stmt := ist 40 12
def n_House_backs : List Str := ["self", "chart"]
def s_House_backs : Stmt := ist 40 13
def n_House_is_sheet : List Str := ["self", "value", "at"]
def s_House_is_sheet : Stmt := ist 40 14
def n_House_put : List Str := ["self", "sheet", "slot", "content"]
def s_House_put : Stmt := ist 40 15
def n_House_content : List Str := ["self", "sheet", "slot"]
def s_House_content : Stmt := ist 40 16
def n_sewn_node : List Str := ["node", "outcome", "chart"]
def s_sewn_node : Stmt := st 42
def n_need_different : List Str := ["first_names", "second_names", "name"]
def s_need_different : Stmt := st 43
def n_sew : List Str := ["first", "outcome", "second", "charts", "name", "nodes", "node"]
def s_sew : Stmt := st 44
def n__law_mixed : List Str := ["seed", "k", "number"]
def s__law_mixed : Stmt := st 46
def n__law_draws : List Str := ["script", "count", "rows", "seed", "cell", "rest", "k"]
def s__law_draws : Stmt := st 47
def n__law_slots : List Str := ["draws", "mode", "shape", "names", "words", "shift", "rows", "i", "k"]
def s__law_slots : Stmt := st 48
def n__law_names : List Str := ["shift", "count", "names", "k"]
def s__law_names : Stmt := st 49
def n__law_base : List Str := ["draws", "mode", "many", "charts", "backs", "names", "counts", "j", "words", "extra", "count"]
def s__law_base : Stmt := st 50
def n__law_kind : List Str := ["draws", "at", "base", "j", "k", "kinds", "kind", "last"]
def s__law_kind : Stmt := st 51
def n__law_target : List Str := ["draws", "at", "base", "j", "k", "kind", "names"]
def s__law_target : Stmt := st 52
def n__law_said : List Str := ["draws", "at", "slots", "slot", "texts"]
def s__law_said : Stmt := st 53
def n__law_arms : List Str := ["draws", "at", "base", "j", "k", "kind", "words", "i"]
def s__law_arms : Stmt := st 54
def n__law_node : List Str := ["draws", "at", "base", "j", "k", "name", "kind", "slots", "one", "two", "words", "shift", "callee", "slot", "contents", "content", "fixes", "i", "row"]
def s__law_node : Stmt := st 55
def n__law_charts : List Str := ["draws", "mode", "base", "rows", "j", "nodes", "rest", "i", "k"]
def s__law_charts : Stmt := st 56
def n__law_same : List Str := ["actual", "due", "k"]
def s__law_same : Stmt := st 57
def n__law_new : List Str := ["rows", "name", "row"]
def s__law_new : Stmt := st 58
def n__law_new_text : List Str := ["rows", "text", "parts", "part", "pair"]
def s__law_new_text : Stmt := st 59
def n__law_new_node : List Str := ["slots", "charts", "node", "kind", "fixes", "name"]
def s__law_new_node : Stmt := st 60
def n__law_renamed : List Str := ["house", "slots", "charts", "rows", "chart", "nodes", "node", "slot"]
def s__law_renamed : Stmt := st 61
def n__law_sewn : List Str := ["first", "outcome", "second", "rows", "chart", "nodes", "node"]
def s__law_sewn : Stmt := st 62
def n__law_due : List Str := ["first", "outcome", "second", "names", "slot", "chart", "pair"]
def s__law_due : Stmt := st 63
def n__law_answer : List Str := ["first", "outcome", "second", "house", "e"]
def s__law_answer : Stmt := st 64
def n_law : List Str := ["script", "draws", "two", "slots", "many", "charts", "more", "first", "tails", "slot_names", "chart_names", "second", "endings", "outcome", "one", "other"]
def s_law : Stmt := st 65
def nmL : List Str := ["backs", "nodes", "slots", "check_slot", "check_next", "check_content", "check_hand", "check_node", "_backs", "_firsts", "_nodes", "_contents", "_places", "charts", "has_chart", "has_slot", "has_node", "is_sheet", "main", "chart_names", "slot_names", "name", "reason", "place", "index", "sheet"]
def nmF : Nat → Str := nmAt nmL
def pr (x : Str) (i : Nat) : Str × Nat := (x, i)
def nm : Nm := ⟨[pr "MAX_SLOTS" 0, pr "MAX_VALUES" 1, pr "MAX_CHARTS" 2, pr "MAX_NODES" 3, pr "MAX_ARMS" 4, pr "LETTERS" 5, pr "DIGITS" 6, pr "SIGNS" 7, pr "MAX_WORD" 8, pr "MAX_SAID" 9, pr "KINDS" 10, pr "LENGTHS" 11], [pr "_wall" 0, pr "is_word" 1, pr "is_text" 2, pr "pieces" 3, pr "is_sound" 4, pr "places" 5, pr "are_different" 6, pr "are_words" 7, pr "is_content" 8, pr "are_arms" 9, pr "has_parts" 10, pr "is_node" 11, pr "check_slots" 12, pr "check_nodes" 13, pr "check_charts" 14, pr "back_words" 15, pr "check_links" 22, pr "sewn_node" 40, pr "need_different" 41, pr "sew" 42, pr "_law_mixed" 43, pr "_law_draws" 44, pr "_law_slots" 45, pr "_law_names" 46, pr "_law_base" 47, pr "_law_kind" 48, pr "_law_target" 49, pr "_law_said" 50, pr "_law_arms" 51, pr "_law_node" 52, pr "_law_charts" 53, pr "_law_same" 54, pr "_law_new" 55, pr "_law_new_text" 56, pr "_law_new_node" 57, pr "_law_renamed" 58, pr "_law_sewn" 59, pr "_law_due" 60, pr "_law_answer" 61, pr "law" 62], [pr "Links" 0, pr "House" 1], [pr "TalkError" 2, pr "BadText" 3, pr "BadHouse" 4, pr "Unknown" 5, pr "BadSheet" 6, pr "BadName" 7], [3, 4, 5, 6, 7], nmF⟩
theorem k__wall : chkSs ⟨n__wall, L2.defScope s__wall, fun _ => true, nm⟩ c__wall.body (L2.defBody s__wall) = true := by decide +kernel
theorem k_is_word : chkSs ⟨n_is_word, L2.defScope s_is_word, fun _ => true, nm⟩ c_is_word.body (L2.defBody s_is_word) = true := by decide +kernel
theorem k_is_text : chkSs ⟨n_is_text, L2.defScope s_is_text, fun _ => true, nm⟩ c_is_text.body (L2.defBody s_is_text) = true := by decide +kernel
theorem k_pieces : chkSs ⟨n_pieces, L2.defScope s_pieces, fun _ => true, nm⟩ c_pieces.body (L2.defBody s_pieces) = true := by decide +kernel
theorem k_is_sound : chkSs ⟨n_is_sound, L2.defScope s_is_sound, fun _ => true, nm⟩ c_is_sound.body (L2.defBody s_is_sound) = true := by decide +kernel
theorem k_places : chkSs ⟨n_places, L2.defScope s_places, fun _ => true, nm⟩ c_places.body (L2.defBody s_places) = true := by decide +kernel
theorem k_are_different : chkSs ⟨n_are_different, L2.defScope s_are_different, fun _ => true, nm⟩ c_are_different.body (L2.defBody s_are_different) = true := by decide +kernel
theorem k_are_words : chkSs ⟨n_are_words, L2.defScope s_are_words, fun _ => true, nm⟩ c_are_words.body (L2.defBody s_are_words) = true := by decide +kernel
theorem k_is_content : chkSs ⟨n_is_content, L2.defScope s_is_content, fun _ => true, nm⟩ c_is_content.body (L2.defBody s_is_content) = true := by decide +kernel
theorem k_are_arms : chkSs ⟨n_are_arms, L2.defScope s_are_arms, fun _ => true, nm⟩ c_are_arms.body (L2.defBody s_are_arms) = true := by decide +kernel
theorem k_has_parts : chkSs ⟨n_has_parts, L2.defScope s_has_parts, fun _ => true, nm⟩ c_has_parts.body (L2.defBody s_has_parts) = true := by decide +kernel
theorem k_is_node : chkSs ⟨n_is_node, L2.defScope s_is_node, fun _ => true, nm⟩ c_is_node.body (L2.defBody s_is_node) = true := by decide +kernel
theorem k_check_slots : chkSs ⟨n_check_slots, L2.defScope s_check_slots, fun _ => true, nm⟩ c_check_slots.body (L2.defBody s_check_slots) = true := by decide +kernel
theorem k_check_nodes : chkSs ⟨n_check_nodes, L2.defScope s_check_nodes, fun _ => true, nm⟩ c_check_nodes.body (L2.defBody s_check_nodes) = true := by decide +kernel
theorem k_check_charts : chkSs ⟨n_check_charts, L2.defScope s_check_charts, fun _ => true, nm⟩ c_check_charts.body (L2.defBody s_check_charts) = true := by decide +kernel
theorem k_back_words : chkSs ⟨n_back_words, L2.defScope s_back_words, fun _ => true, nm⟩ c_back_words.body (L2.defBody s_back_words) = true := by decide +kernel
theorem k_Links___init__ : chkSs ⟨n_Links___init__, L2.defScope s_Links___init__, fun _ => true, nm⟩ c_Links___init__.body (L2.defBody s_Links___init__) = true := by decide +kernel
theorem k_Links_check_slot : chkSs ⟨n_Links_check_slot, L2.defScope s_Links_check_slot, fun _ => true, nm⟩ c_Links_check_slot.body (L2.defBody s_Links_check_slot) = true := by decide +kernel
theorem k_Links_check_content : chkSs ⟨n_Links_check_content, L2.defScope s_Links_check_content, fun _ => true, nm⟩ c_Links_check_content.body (L2.defBody s_Links_check_content) = true := by decide +kernel
theorem k_Links_check_next : chkSs ⟨n_Links_check_next, L2.defScope s_Links_check_next, fun _ => true, nm⟩ c_Links_check_next.body (L2.defBody s_Links_check_next) = true := by decide +kernel
theorem k_Links_check_hand : chkSs ⟨n_Links_check_hand, L2.defScope s_Links_check_hand, fun _ => true, nm⟩ c_Links_check_hand.body (L2.defBody s_Links_check_hand) = true := by decide +kernel
theorem k_Links_check_node : chkSs ⟨n_Links_check_node, L2.defScope s_Links_check_node, fun _ => true, nm⟩ c_Links_check_node.body (L2.defBody s_Links_check_node) = true := by decide +kernel
theorem k_check_links : chkSs ⟨n_check_links, L2.defScope s_check_links, fun _ => true, nm⟩ c_check_links.body (L2.defBody s_check_links) = true := by decide +kernel
theorem k_House___init__ : chkSs ⟨n_House___init__, L2.defScope s_House___init__, fun _ => true, nm⟩ c_House___init__.body (L2.defBody s_House___init__) = true := by decide +kernel
theorem k_House_main : chkSs ⟨n_House_main, L2.defScope s_House_main, fun _ => true, nm⟩ c_House_main.body (L2.defBody s_House_main) = true := by decide +kernel
theorem k_House_empty : chkSs ⟨n_House_empty, L2.defScope s_House_empty, fun _ => true, nm⟩ c_House_empty.body (L2.defBody s_House_empty) = true := by decide +kernel
theorem k_House_slot_names : chkSs ⟨n_House_slot_names, L2.defScope s_House_slot_names, fun _ => true, nm⟩ c_House_slot_names.body (L2.defBody s_House_slot_names) = true := by decide +kernel
theorem k_House_has_slot : chkSs ⟨n_House_has_slot, L2.defScope s_House_has_slot, fun _ => true, nm⟩ c_House_has_slot.body (L2.defBody s_House_has_slot) = true := by decide +kernel
theorem k_House_has_chart : chkSs ⟨n_House_has_chart, L2.defScope s_House_has_chart, fun _ => true, nm⟩ c_House_has_chart.body (L2.defBody s_House_has_chart) = true := by decide +kernel
theorem k_House_has_node : chkSs ⟨n_House_has_node, L2.defScope s_House_has_node, fun _ => true, nm⟩ c_House_has_node.body (L2.defBody s_House_has_node) = true := by decide +kernel
theorem k_House_contents : chkSs ⟨n_House_contents, L2.defScope s_House_contents, fun _ => true, nm⟩ c_House_contents.body (L2.defBody s_House_contents) = true := by decide +kernel
theorem k_House_slot_at : chkSs ⟨n_House_slot_at, L2.defScope s_House_slot_at, fun _ => true, nm⟩ c_House_slot_at.body (L2.defBody s_House_slot_at) = true := by decide +kernel
theorem k_House_chart_names : chkSs ⟨n_House_chart_names, L2.defScope s_House_chart_names, fun _ => true, nm⟩ c_House_chart_names.body (L2.defBody s_House_chart_names) = true := by decide +kernel
theorem k_House_node_names : chkSs ⟨n_House_node_names, L2.defScope s_House_node_names, fun _ => true, nm⟩ c_House_node_names.body (L2.defBody s_House_node_names) = true := by decide +kernel
theorem k_House_node : chkSs ⟨n_House_node, L2.defScope s_House_node, fun _ => true, nm⟩ c_House_node.body (L2.defBody s_House_node) = true := by decide +kernel
theorem k_House_first : chkSs ⟨n_House_first, L2.defScope s_House_first, fun _ => true, nm⟩ c_House_first.body (L2.defBody s_House_first) = true := by decide +kernel
theorem k_House_backs : chkSs ⟨n_House_backs, L2.defScope s_House_backs, fun _ => true, nm⟩ c_House_backs.body (L2.defBody s_House_backs) = true := by decide +kernel
theorem k_House_is_sheet : chkSs ⟨n_House_is_sheet, L2.defScope s_House_is_sheet, fun _ => true, nm⟩ c_House_is_sheet.body (L2.defBody s_House_is_sheet) = true := by decide +kernel
theorem k_House_put : chkSs ⟨n_House_put, L2.defScope s_House_put, fun _ => true, nm⟩ c_House_put.body (L2.defBody s_House_put) = true := by decide +kernel
theorem k_House_content : chkSs ⟨n_House_content, L2.defScope s_House_content, fun _ => true, nm⟩ c_House_content.body (L2.defBody s_House_content) = true := by decide +kernel
theorem k_sewn_node : chkSs ⟨n_sewn_node, L2.defScope s_sewn_node, fun _ => true, nm⟩ c_sewn_node.body (L2.defBody s_sewn_node) = true := by decide +kernel
theorem k_need_different : chkSs ⟨n_need_different, L2.defScope s_need_different, fun _ => true, nm⟩ c_need_different.body (L2.defBody s_need_different) = true := by decide +kernel
theorem k_sew : chkSs ⟨n_sew, L2.defScope s_sew, fun _ => true, nm⟩ c_sew.body (L2.defBody s_sew) = true := by decide +kernel
theorem k__law_mixed : chkSs ⟨n__law_mixed, L2.defScope s__law_mixed, fun _ => true, nm⟩ c__law_mixed.body (L2.defBody s__law_mixed) = true := by decide +kernel
theorem k__law_draws : chkSs ⟨n__law_draws, L2.defScope s__law_draws, fun _ => true, nm⟩ c__law_draws.body (L2.defBody s__law_draws) = true := by decide +kernel
theorem k__law_slots : chkSs ⟨n__law_slots, L2.defScope s__law_slots, fun _ => true, nm⟩ c__law_slots.body (L2.defBody s__law_slots) = true := by decide +kernel
theorem k__law_names : chkSs ⟨n__law_names, L2.defScope s__law_names, fun _ => true, nm⟩ c__law_names.body (L2.defBody s__law_names) = true := by decide +kernel
theorem k__law_base : chkSs ⟨n__law_base, L2.defScope s__law_base, fun _ => true, nm⟩ c__law_base.body (L2.defBody s__law_base) = true := by decide +kernel
theorem k__law_kind : chkSs ⟨n__law_kind, L2.defScope s__law_kind, fun _ => true, nm⟩ c__law_kind.body (L2.defBody s__law_kind) = true := by decide +kernel
theorem k__law_target : chkSs ⟨n__law_target, L2.defScope s__law_target, fun _ => true, nm⟩ c__law_target.body (L2.defBody s__law_target) = true := by decide +kernel
theorem k__law_said : chkSs ⟨n__law_said, L2.defScope s__law_said, fun _ => true, nm⟩ c__law_said.body (L2.defBody s__law_said) = true := by decide +kernel
theorem k__law_arms : chkSs ⟨n__law_arms, L2.defScope s__law_arms, fun _ => true, nm⟩ c__law_arms.body (L2.defBody s__law_arms) = true := by decide +kernel
theorem k__law_node : chkSs ⟨n__law_node, L2.defScope s__law_node, fun _ => true, nm⟩ c__law_node.body (L2.defBody s__law_node) = true := by decide +kernel
theorem k__law_charts : chkSs ⟨n__law_charts, L2.defScope s__law_charts, fun _ => true, nm⟩ c__law_charts.body (L2.defBody s__law_charts) = true := by decide +kernel
theorem k__law_same : chkSs ⟨n__law_same, L2.defScope s__law_same, fun _ => true, nm⟩ c__law_same.body (L2.defBody s__law_same) = true := by decide +kernel
theorem k__law_new : chkSs ⟨n__law_new, L2.defScope s__law_new, fun _ => true, nm⟩ c__law_new.body (L2.defBody s__law_new) = true := by decide +kernel
theorem k__law_new_text : chkSs ⟨n__law_new_text, L2.defScope s__law_new_text, fun _ => true, nm⟩ c__law_new_text.body (L2.defBody s__law_new_text) = true := by decide +kernel
theorem k__law_new_node : chkSs ⟨n__law_new_node, L2.defScope s__law_new_node, fun _ => true, nm⟩ c__law_new_node.body (L2.defBody s__law_new_node) = true := by decide +kernel
theorem k__law_renamed : chkSs ⟨n__law_renamed, L2.defScope s__law_renamed, fun _ => true, nm⟩ c__law_renamed.body (L2.defBody s__law_renamed) = true := by decide +kernel
theorem k__law_sewn : chkSs ⟨n__law_sewn, L2.defScope s__law_sewn, fun _ => true, nm⟩ c__law_sewn.body (L2.defBody s__law_sewn) = true := by decide +kernel
theorem k__law_due : chkSs ⟨n__law_due, L2.defScope s__law_due, fun _ => true, nm⟩ c__law_due.body (L2.defBody s__law_due) = true := by decide +kernel
theorem k__law_answer : chkSs ⟨n__law_answer, L2.defScope s__law_answer, fun _ => true, nm⟩ c__law_answer.body (L2.defBody s__law_answer) = true := by decide +kernel
theorem k_law : chkSs ⟨n_law, L2.defScope s_law, fun _ => true, nm⟩ c_law.body (L2.defBody s_law) = true := by decide +kernel
end Tk.K61
/- K61H -/
set_option Elab.async false
set_option linter.all false
set_option maxRecDepth 100000
set_option maxHeartbeats 0
namespace Tk.K61
open PySem
def cnm (i : Nat) : Str := (["Links", "House", "TalkError", "BadText", "BadHouse", "Unknown", "BadSheet", "BadName"] : List Str).getD i (Str.ofString "")
def dnL : List (Str × Option Str) := [(("_wall" : Str), (none : Option Str)), (("is_word" : Str), (none : Option Str)), (("is_text" : Str), (none : Option Str)), (("pieces" : Str), (none : Option Str)), (("is_sound" : Str), (none : Option Str)), (("places" : Str), (none : Option Str)), (("are_different" : Str), (none : Option Str)), (("are_words" : Str), (none : Option Str)), (("is_content" : Str), (none : Option Str)), (("are_arms" : Str), (none : Option Str)), (("has_parts" : Str), (none : Option Str)), (("is_node" : Str), (none : Option Str)), (("check_slots" : Str), (none : Option Str)), (("check_nodes" : Str), (none : Option Str)), (("check_charts" : Str), (none : Option Str)), (("back_words" : Str), (none : Option Str)), (("Links" : Str), (some ("__init__" : Str))), (("Links" : Str), (some ("check_slot" : Str))), (("Links" : Str), (some ("check_content" : Str))), (("Links" : Str), (some ("check_next" : Str))), (("Links" : Str), (some ("check_hand" : Str))), (("Links" : Str), (some ("check_node" : Str))), (("check_links" : Str), (none : Option Str)), (("House" : Str), (some ("__init__" : Str))), (("House" : Str), (some ("main" : Str))), (("House" : Str), (some ("empty" : Str))), (("House" : Str), (some ("slot_names" : Str))), (("House" : Str), (some ("has_slot" : Str))), (("House" : Str), (some ("has_chart" : Str))), (("House" : Str), (some ("has_node" : Str))), (("House" : Str), (some ("contents" : Str))), (("House" : Str), (some ("slot_at" : Str))), (("House" : Str), (some ("chart_names" : Str))), (("House" : Str), (some ("node_names" : Str))), (("House" : Str), (some ("node" : Str))), (("House" : Str), (some ("first" : Str))), (("House" : Str), (some ("backs" : Str))), (("House" : Str), (some ("is_sheet" : Str))), (("House" : Str), (some ("put" : Str))), (("House" : Str), (some ("content" : Str))), (("sewn_node" : Str), (none : Option Str)), (("need_different" : Str), (none : Option Str)), (("sew" : Str), (none : Option Str)), (("_law_mixed" : Str), (none : Option Str)), (("_law_draws" : Str), (none : Option Str)), (("_law_slots" : Str), (none : Option Str)), (("_law_names" : Str), (none : Option Str)), (("_law_base" : Str), (none : Option Str)), (("_law_kind" : Str), (none : Option Str)), (("_law_target" : Str), (none : Option Str)), (("_law_said" : Str), (none : Option Str)), (("_law_arms" : Str), (none : Option Str)), (("_law_node" : Str), (none : Option Str)), (("_law_charts" : Str), (none : Option Str)), (("_law_same" : Str), (none : Option Str)), (("_law_new" : Str), (none : Option Str)), (("_law_new_text" : Str), (none : Option Str)), (("_law_new_node" : Str), (none : Option Str)), (("_law_renamed" : Str), (none : Option Str)), (("_law_sewn" : Str), (none : Option Str)), (("_law_due" : Str), (none : Option Str)), (("_law_answer" : Str), (none : Option Str)), (("law" : Str), (none : Option Str))]
def dn (i : Nat) : Str × Option Str := dnL.getD i (Str.ofString "", none)
def tb : Tb := ⟨cnm, nmF, dn, clT, [2, 3, 4, 5, 6, 7], PG.sup, PG.iso, PG.xf⟩
def conL : List (Str × Nat) := [pr "MAX_SLOTS" 0, pr "MAX_VALUES" 1, pr "MAX_CHARTS" 2, pr "MAX_NODES" 3, pr "MAX_ARMS" 4, pr "LETTERS" 5, pr "DIGITS" 6, pr "SIGNS" 7, pr "MAX_WORD" 8, pr "MAX_SAID" 9, pr "KINDS" 10]
def dctL : List (Str × Nat) := [pr "LENGTHS" 11]
def xinL : List Nat := [3, 4, 5, 6, 7]
def ex (K : PySem.W.Frag) : Bool := exB tb glT conL dctL xinL K
def d0 : He.DefD := ⟨(("_wall" : Str), (none : Option Str)), "_wall", "_wall", L2.defArgs s__wall, L2.defBody s__wall, L2.defScope s__wall, [], []⟩
def d1 : He.DefD := ⟨(("is_word" : Str), (none : Option Str)), "is_word", "is_word", L2.defArgs s_is_word, L2.defBody s_is_word, L2.defScope s_is_word, [], []⟩
def d2 : He.DefD := ⟨(("is_text" : Str), (none : Option Str)), "is_text", "is_text", L2.defArgs s_is_text, L2.defBody s_is_text, L2.defScope s_is_text, [], []⟩
def d3 : He.DefD := ⟨(("pieces" : Str), (none : Option Str)), "pieces", "pieces", L2.defArgs s_pieces, L2.defBody s_pieces, L2.defScope s_pieces, [], []⟩
def d4 : He.DefD := ⟨(("is_sound" : Str), (none : Option Str)), "is_sound", "is_sound", L2.defArgs s_is_sound, L2.defBody s_is_sound, L2.defScope s_is_sound, [], []⟩
def d5 : He.DefD := ⟨(("places" : Str), (none : Option Str)), "places", "places", L2.defArgs s_places, L2.defBody s_places, L2.defScope s_places, [], []⟩
def d6 : He.DefD := ⟨(("are_different" : Str), (none : Option Str)), "are_different", "are_different", L2.defArgs s_are_different, L2.defBody s_are_different, L2.defScope s_are_different, [], []⟩
def d7 : He.DefD := ⟨(("are_words" : Str), (none : Option Str)), "are_words", "are_words", L2.defArgs s_are_words, L2.defBody s_are_words, L2.defScope s_are_words, [], []⟩
def d8 : He.DefD := ⟨(("is_content" : Str), (none : Option Str)), "is_content", "is_content", L2.defArgs s_is_content, L2.defBody s_is_content, L2.defScope s_is_content, [], []⟩
def d9 : He.DefD := ⟨(("are_arms" : Str), (none : Option Str)), "are_arms", "are_arms", L2.defArgs s_are_arms, L2.defBody s_are_arms, L2.defScope s_are_arms, [], []⟩
def d10 : He.DefD := ⟨(("has_parts" : Str), (none : Option Str)), "has_parts", "has_parts", L2.defArgs s_has_parts, L2.defBody s_has_parts, L2.defScope s_has_parts, [], []⟩
def d11 : He.DefD := ⟨(("is_node" : Str), (none : Option Str)), "is_node", "is_node", L2.defArgs s_is_node, L2.defBody s_is_node, L2.defScope s_is_node, [], []⟩
def d12 : He.DefD := ⟨(("check_slots" : Str), (none : Option Str)), "check_slots", "check_slots", L2.defArgs s_check_slots, L2.defBody s_check_slots, L2.defScope s_check_slots, [], []⟩
def d13 : He.DefD := ⟨(("check_nodes" : Str), (none : Option Str)), "check_nodes", "check_nodes", L2.defArgs s_check_nodes, L2.defBody s_check_nodes, L2.defScope s_check_nodes, [], []⟩
def d14 : He.DefD := ⟨(("check_charts" : Str), (none : Option Str)), "check_charts", "check_charts", L2.defArgs s_check_charts, L2.defBody s_check_charts, L2.defScope s_check_charts, [], []⟩
def d15 : He.DefD := ⟨(("back_words" : Str), (none : Option Str)), "back_words", "back_words", L2.defArgs s_back_words, L2.defBody s_back_words, L2.defScope s_back_words, [], []⟩
def d16 : He.DefD := ⟨(("Links" : Str), (some ("__init__" : Str))), "__init__", "Links.__init__", L2.defArgs s_Links___init__, L2.defBody s_Links___init__, L2.defScope s_Links___init__, [], []⟩
def d17 : He.DefD := ⟨(("Links" : Str), (some ("check_slot" : Str))), "check_slot", "Links.check_slot", L2.defArgs s_Links_check_slot, L2.defBody s_Links_check_slot, L2.defScope s_Links_check_slot, [], []⟩
def d18 : He.DefD := ⟨(("Links" : Str), (some ("check_content" : Str))), "check_content", "Links.check_content", L2.defArgs s_Links_check_content, L2.defBody s_Links_check_content, L2.defScope s_Links_check_content, [], []⟩
def d19 : He.DefD := ⟨(("Links" : Str), (some ("check_next" : Str))), "check_next", "Links.check_next", L2.defArgs s_Links_check_next, L2.defBody s_Links_check_next, L2.defScope s_Links_check_next, [], []⟩
def d20 : He.DefD := ⟨(("Links" : Str), (some ("check_hand" : Str))), "check_hand", "Links.check_hand", L2.defArgs s_Links_check_hand, L2.defBody s_Links_check_hand, L2.defScope s_Links_check_hand, [], []⟩
def d21 : He.DefD := ⟨(("Links" : Str), (some ("check_node" : Str))), "check_node", "Links.check_node", L2.defArgs s_Links_check_node, L2.defBody s_Links_check_node, L2.defScope s_Links_check_node, [], []⟩
def d22 : He.DefD := ⟨(("check_links" : Str), (none : Option Str)), "check_links", "check_links", L2.defArgs s_check_links, L2.defBody s_check_links, L2.defScope s_check_links, [], []⟩
def d23 : He.DefD := ⟨(("House" : Str), (some ("__init__" : Str))), "__init__", "House.__init__", L2.defArgs s_House___init__, L2.defBody s_House___init__, L2.defScope s_House___init__, [], []⟩
def d24 : He.DefD := ⟨(("House" : Str), (some ("main" : Str))), "main", "House.main", L2.defArgs s_House_main, L2.defBody s_House_main, L2.defScope s_House_main, [], []⟩
def d25 : He.DefD := ⟨(("House" : Str), (some ("empty" : Str))), "empty", "House.empty", L2.defArgs s_House_empty, L2.defBody s_House_empty, L2.defScope s_House_empty, [], []⟩
def d26 : He.DefD := ⟨(("House" : Str), (some ("slot_names" : Str))), "slot_names", "House.slot_names", L2.defArgs s_House_slot_names, L2.defBody s_House_slot_names, L2.defScope s_House_slot_names, [], []⟩
def d27 : He.DefD := ⟨(("House" : Str), (some ("has_slot" : Str))), "has_slot", "House.has_slot", L2.defArgs s_House_has_slot, L2.defBody s_House_has_slot, L2.defScope s_House_has_slot, [], []⟩
def d28 : He.DefD := ⟨(("House" : Str), (some ("has_chart" : Str))), "has_chart", "House.has_chart", L2.defArgs s_House_has_chart, L2.defBody s_House_has_chart, L2.defScope s_House_has_chart, [], []⟩
def d29 : He.DefD := ⟨(("House" : Str), (some ("has_node" : Str))), "has_node", "House.has_node", L2.defArgs s_House_has_node, L2.defBody s_House_has_node, L2.defScope s_House_has_node, [], []⟩
def d30 : He.DefD := ⟨(("House" : Str), (some ("contents" : Str))), "contents", "House.contents", L2.defArgs s_House_contents, L2.defBody s_House_contents, L2.defScope s_House_contents, [], []⟩
def d31 : He.DefD := ⟨(("House" : Str), (some ("slot_at" : Str))), "slot_at", "House.slot_at", L2.defArgs s_House_slot_at, L2.defBody s_House_slot_at, L2.defScope s_House_slot_at, [], []⟩
def d32 : He.DefD := ⟨(("House" : Str), (some ("chart_names" : Str))), "chart_names", "House.chart_names", L2.defArgs s_House_chart_names, L2.defBody s_House_chart_names, L2.defScope s_House_chart_names, [], []⟩
def d33 : He.DefD := ⟨(("House" : Str), (some ("node_names" : Str))), "node_names", "House.node_names", L2.defArgs s_House_node_names, L2.defBody s_House_node_names, L2.defScope s_House_node_names, [], []⟩
def d34 : He.DefD := ⟨(("House" : Str), (some ("node" : Str))), "node", "House.node", L2.defArgs s_House_node, L2.defBody s_House_node, L2.defScope s_House_node, [], []⟩
def d35 : He.DefD := ⟨(("House" : Str), (some ("first" : Str))), "first", "House.first", L2.defArgs s_House_first, L2.defBody s_House_first, L2.defScope s_House_first, [], []⟩
def d36 : He.DefD := ⟨(("House" : Str), (some ("backs" : Str))), "backs", "House.backs", L2.defArgs s_House_backs, L2.defBody s_House_backs, L2.defScope s_House_backs, [], []⟩
def d37 : He.DefD := ⟨(("House" : Str), (some ("is_sheet" : Str))), "is_sheet", "House.is_sheet", L2.defArgs s_House_is_sheet, L2.defBody s_House_is_sheet, L2.defScope s_House_is_sheet, [], []⟩
def d38 : He.DefD := ⟨(("House" : Str), (some ("put" : Str))), "put", "House.put", L2.defArgs s_House_put, L2.defBody s_House_put, L2.defScope s_House_put, [], []⟩
def d39 : He.DefD := ⟨(("House" : Str), (some ("content" : Str))), "content", "House.content", L2.defArgs s_House_content, L2.defBody s_House_content, L2.defScope s_House_content, [], []⟩
def d40 : He.DefD := ⟨(("sewn_node" : Str), (none : Option Str)), "sewn_node", "sewn_node", L2.defArgs s_sewn_node, L2.defBody s_sewn_node, L2.defScope s_sewn_node, [], []⟩
def d41 : He.DefD := ⟨(("need_different" : Str), (none : Option Str)), "need_different", "need_different", L2.defArgs s_need_different, L2.defBody s_need_different, L2.defScope s_need_different, [], []⟩
def d42 : He.DefD := ⟨(("sew" : Str), (none : Option Str)), "sew", "sew", L2.defArgs s_sew, L2.defBody s_sew, L2.defScope s_sew, [], []⟩
def d43 : He.DefD := ⟨(("_law_mixed" : Str), (none : Option Str)), "_law_mixed", "_law_mixed", L2.defArgs s__law_mixed, L2.defBody s__law_mixed, L2.defScope s__law_mixed, [], []⟩
def d44 : He.DefD := ⟨(("_law_draws" : Str), (none : Option Str)), "_law_draws", "_law_draws", L2.defArgs s__law_draws, L2.defBody s__law_draws, L2.defScope s__law_draws, [], []⟩
def d45 : He.DefD := ⟨(("_law_slots" : Str), (none : Option Str)), "_law_slots", "_law_slots", L2.defArgs s__law_slots, L2.defBody s__law_slots, L2.defScope s__law_slots, [], []⟩
def d46 : He.DefD := ⟨(("_law_names" : Str), (none : Option Str)), "_law_names", "_law_names", L2.defArgs s__law_names, L2.defBody s__law_names, L2.defScope s__law_names, [], []⟩
def d47 : He.DefD := ⟨(("_law_base" : Str), (none : Option Str)), "_law_base", "_law_base", L2.defArgs s__law_base, L2.defBody s__law_base, L2.defScope s__law_base, [], []⟩
def d48 : He.DefD := ⟨(("_law_kind" : Str), (none : Option Str)), "_law_kind", "_law_kind", L2.defArgs s__law_kind, L2.defBody s__law_kind, L2.defScope s__law_kind, [], []⟩
def d49 : He.DefD := ⟨(("_law_target" : Str), (none : Option Str)), "_law_target", "_law_target", L2.defArgs s__law_target, L2.defBody s__law_target, L2.defScope s__law_target, [], []⟩
def d50 : He.DefD := ⟨(("_law_said" : Str), (none : Option Str)), "_law_said", "_law_said", L2.defArgs s__law_said, L2.defBody s__law_said, L2.defScope s__law_said, [], []⟩
def d51 : He.DefD := ⟨(("_law_arms" : Str), (none : Option Str)), "_law_arms", "_law_arms", L2.defArgs s__law_arms, L2.defBody s__law_arms, L2.defScope s__law_arms, [], []⟩
def d52 : He.DefD := ⟨(("_law_node" : Str), (none : Option Str)), "_law_node", "_law_node", L2.defArgs s__law_node, L2.defBody s__law_node, L2.defScope s__law_node, [], []⟩
def d53 : He.DefD := ⟨(("_law_charts" : Str), (none : Option Str)), "_law_charts", "_law_charts", L2.defArgs s__law_charts, L2.defBody s__law_charts, L2.defScope s__law_charts, [], []⟩
def d54 : He.DefD := ⟨(("_law_same" : Str), (none : Option Str)), "_law_same", "_law_same", L2.defArgs s__law_same, L2.defBody s__law_same, L2.defScope s__law_same, [], []⟩
def d55 : He.DefD := ⟨(("_law_new" : Str), (none : Option Str)), "_law_new", "_law_new", L2.defArgs s__law_new, L2.defBody s__law_new, L2.defScope s__law_new, [], []⟩
def d56 : He.DefD := ⟨(("_law_new_text" : Str), (none : Option Str)), "_law_new_text", "_law_new_text", L2.defArgs s__law_new_text, L2.defBody s__law_new_text, L2.defScope s__law_new_text, [], []⟩
def d57 : He.DefD := ⟨(("_law_new_node" : Str), (none : Option Str)), "_law_new_node", "_law_new_node", L2.defArgs s__law_new_node, L2.defBody s__law_new_node, L2.defScope s__law_new_node, [], []⟩
def d58 : He.DefD := ⟨(("_law_renamed" : Str), (none : Option Str)), "_law_renamed", "_law_renamed", L2.defArgs s__law_renamed, L2.defBody s__law_renamed, L2.defScope s__law_renamed, [], []⟩
def d59 : He.DefD := ⟨(("_law_sewn" : Str), (none : Option Str)), "_law_sewn", "_law_sewn", L2.defArgs s__law_sewn, L2.defBody s__law_sewn, L2.defScope s__law_sewn, [], []⟩
def d60 : He.DefD := ⟨(("_law_due" : Str), (none : Option Str)), "_law_due", "_law_due", L2.defArgs s__law_due, L2.defBody s__law_due, L2.defScope s__law_due, [], []⟩
def d61 : He.DefD := ⟨(("_law_answer" : Str), (none : Option Str)), "_law_answer", "_law_answer", L2.defArgs s__law_answer, L2.defBody s__law_answer, L2.defScope s__law_answer, [], []⟩
def d62 : He.DefD := ⟨(("law" : Str), (none : Option Str)), "law", "law", L2.defArgs s_law, L2.defBody s_law, L2.defScope s_law, [], []⟩
def d63 : He.DefD := ⟨(("BadText" : Str), some ("__init__" : Str)), "__init__", "BadText.__init__", L2.defArgs (ist 3 0), L2.defBody (ist 3 0), L2.defScope (ist 3 0), [], []⟩
def d64 : He.DefD := ⟨(("BadHouse" : Str), some ("__init__" : Str)), "__init__", "BadHouse.__init__", L2.defArgs (ist 4 0), L2.defBody (ist 4 0), L2.defScope (ist 4 0), [], []⟩
def d65 : He.DefD := ⟨(("Unknown" : Str), some ("__init__" : Str)), "__init__", "Unknown.__init__", L2.defArgs (ist 5 0), L2.defBody (ist 5 0), L2.defScope (ist 5 0), [], []⟩
def d66 : He.DefD := ⟨(("BadSheet" : Str), some ("__init__" : Str)), "__init__", "BadSheet.__init__", L2.defArgs (ist 6 0), L2.defBody (ist 6 0), L2.defScope (ist 6 0), [], []⟩
def d67 : He.DefD := ⟨(("BadName" : Str), some ("__init__" : Str)), "__init__", "BadName.__init__", L2.defArgs (ist 7 0), L2.defBody (ist 7 0), L2.defScope (ist 7 0), [], []⟩
def fnD : List He.DefD := [d0, d1, d2, d3, d4, d5, d6, d7, d8, d9, d10, d11, d12, d13, d14, d15, d16, d17, d18, d19, d20, d21, d22, d23, d24, d25, d26, d27, d28, d29, d30, d31, d32, d33, d34, d35, d36, d37, d38, d39, d40, d41, d42, d43, d44, d45, d46, d47, d48, d49, d50, d51, d52, d53, d54, d55, d56, d57, d58, d59, d60, d61, d62, d63, d64, d65, d66, d67]
def fa0 : List He.Fa := [.glo "_wall", .glo "is_word", .glo "is_text", .glo "pieces", .glo "is_sound", .glo "places", .glo "are_different", .glo "are_words", .glo "is_content", .glo "are_arms", .glo "has_parts", .glo "is_node", .glo "check_slots", .glo "check_nodes", .glo "check_charts", .glo "back_words", .glo "check_links", .glo "sewn_node", .glo "need_different", .glo "sew", .glo "_law_mixed", .glo "_law_draws", .glo "_law_slots", .glo "_law_names", .glo "_law_base", .glo "_law_kind", .glo "_law_target", .glo "_law_said", .glo "_law_arms", .glo "_law_node"]
def fa1 : List He.Fa := [.glo "_law_charts", .glo "_law_same", .glo "_law_new", .glo "_law_new_text", .glo "_law_new_node", .glo "_law_renamed", .glo "_law_sewn", .glo "_law_due", .glo "_law_answer", .glo "law", .glo "Links", .glo "House", .glo "TalkError", .glo "BadText", .glo "BadHouse", .glo "Unknown", .glo "BadSheet", .glo "BadName"]
def faF : List He.Fa := bnL.map .free
def fa : List He.Fa := faF ++ (fa0 ++ fa1)
def ts : List He.Tab := [(fun K => He.ga K "LENGTHS", ["say", "go", "set", "test", "ask", "pick", "hand", "back", "end"])]
def names0 : List PySem.Str := ["_wall", "TalkError", "BadText", "BadHouse", "Unknown", "BadSheet", "BadName", "MAX_SLOTS", "MAX_VALUES", "MAX_CHARTS", "MAX_NODES", "MAX_ARMS", "LETTERS", "DIGITS", "SIGNS", "MAX_WORD", "MAX_SAID", "is_word", "is_text", "pieces", "is_sound", "places", "are_different", "are_words", "KINDS", "LENGTHS", "is_content", "are_arms", "has_parts", "is_node"]
def names1 : List PySem.Str := ["check_slots", "check_nodes", "check_charts", "back_words", "Links", "check_links", "House", "sewn_node", "need_different", "sew", "_law_mixed", "_law_draws", "_law_slots", "_law_names", "_law_base", "_law_kind", "_law_target", "_law_said", "_law_arms", "_law_node", "_law_charts", "_law_same", "_law_new", "_law_new_text", "_law_new_node", "_law_renamed", "_law_sewn", "_law_due", "_law_answer"]
def names : List PySem.Str := names0 ++ names1
abbrev R : PySem.W.OpenRow := PySem.W.OpenLaw.row PySem.Challenge.rw_talkchart_k61_houses_sewn
abbrev qv : Program := PySem.W.view R.prog [65]
def adr : List Addr := [3, 6, 4, 21, 31, 51, 70, 89, 108, 127, 136, 143, 150, 157, 162, 169, 176, 177, 178, 185, 190, 197, 204, 211, 218, 225, 232, 278, 289, 412, 423, 430, 435, 442, 449, 454, 459, 466, 473, 480, 487, 492, 497, 502, 509, 516, 523, 528, 533, 540, 545, 552, 559, 0, 20, 30, 50, 69, 88, 107, 126, 135, 142, 149, 156, 161, 168, 175, 184, 189, 196, 203, 210, 217, 224, 231, 277, 288, 411, 422, 429, 434, 441, 448, 453, 458, 465, 472, 479, 486, 491, 496, 501, 508, 515, 522, 527, 532, 539, 544, 551, 558, 15, 16, 17, 18, 19, 29, 32, 48, 49, 67, 68, 86, 87, 105, 106, 124, 125, 130, 131, 132, 133, 134, 137, 138, 139, 140, 141, 144, 145, 146, 147, 148, 151, 152, 153, 154, 155, 158, 159, 160, 163, 164, 165, 166, 167, 170, 171, 172, 173, 174, 179, 180, 181, 182, 183, 186, 187, 188, 191, 192, 193, 194, 195, 198, 199, 200, 201, 202, 205, 206, 207, 208, 209, 212, 213, 214, 215, 216, 219, 220, 221, 222, 223, 226, 227, 228, 229, 230, 244, 251, 258, 265, 270, 275, 276, 279, 280, 283, 284, 285, 286, 287, 303, 310, 315, 320, 327, 334, 341, 348, 355, 360, 367, 374, 381, 388, 395, 402, 409, 410, 413, 414, 417, 418, 419, 420, 421, 424, 425, 426, 427, 428, 431, 432, 433, 436, 437, 438, 439, 440, 443, 444, 445, 446, 447, 450, 451, 452, 455, 456, 457, 460, 461, 462, 463, 464, 467, 468, 469, 470, 471, 474, 475, 476, 477, 478, 481, 482, 483, 484, 485, 488, 489, 490, 493, 494, 495, 498, 499, 500, 503, 504, 505, 506, 507, 510, 511, 512, 513, 514, 517, 518, 519, 520, 521, 524, 525, 526, 529, 530, 531, 534, 535, 536, 537, 538, 541, 542, 543, 546, 547, 548, 549, 550, 553, 554, 555, 556, 557, 47, 66, 85, 104, 123, 243, 250, 257, 264, 269, 274, 302, 309, 314, 319, 326, 333, 340, 347, 354, 359, 366, 373, 380, 387, 394, 401, 408, 42, 43, 44, 45, 46, 61, 62, 63, 64, 65, 80, 81, 82, 83, 84, 99, 100, 101, 102, 103, 118, 119, 120, 121, 122, 240, 241, 242, 245, 246, 247, 248, 249, 252, 253, 254, 255, 256, 259, 260, 261, 262, 263, 266, 267, 268, 271, 272, 273, 297, 298, 299, 300, 301, 304, 305, 306, 307, 308, 311, 312, 313, 316, 317, 318, 321, 322, 323, 324, 325, 328, 329, 330, 331, 332, 335, 336, 337, 338, 339, 342, 343, 344, 345, 346, 349, 350, 351, 352, 353, 356, 357, 358, 361, 362, 363, 364, 365, 368, 369, 370, 371, 372, 375, 376, 377, 378, 379, 382, 383, 384, 385, 386, 389, 390, 391, 392, 393, 396, 397, 398, 399, 400, 403, 404, 405, 406, 407]
abbrev hk : PySem.W.Hook := hookY adr fa fnD ts ex
def obs (s : PySem.W.SharedT) : He.AlX := obsY adr fa fnD ts ex (HandSHeadRun.getT s)
theorem obs_eq (s : PySem.W.SharedT) : obs s = hk.obs s.abs := obsY_eq (HandSHeadRun.getT_eq s)
theorem run_false (w : World) : HandSHeadRun.RunEq R qv hk obs 5000 names (w.withFollow "special-get-raises" false) := by
  intro os
  kernel_rfl
theorem run_true (w : World) : HandSHeadRun.RunEq R qv hk obs 5000 names (w.withFollow "special-get-raises" true) := by
  intro os
  kernel_rfl
theorem run (w : World) : HandSHeadRun.RunEq R qv hk obs 5000 names w := by
  have e := World.withFollow_self w "special-get-raises"
  rw [← e]
  cases w.params.followText "special-get-raises"
  · exact run_false w
  · exact run_true w
end Tk.K61
/- K61E -/
set_option Elab.async false
set_option linter.all false
set_option maxRecDepth 100000
set_option maxHeartbeats 0
namespace Tk.K61
open PySem PySem.Spec PyProof.Rows L2
theorem inj : ∀ i j, tb.nm i = tb.nm j → i = j := nmAt_inj (l := nmL) (by decide +kernel) (by decide +kernel)
theorem m__wall : Dm nm c__wall d0 n__wall ["k"] := ⟨rfl, rfl, scope_by (by decide +kernel), (fun _ _ _ _ _ _ us hl => match us, hl with | [_], _ => rfl), rfl, rfl, k__wall⟩
theorem m_is_word : Dm nm c_is_word d1 n_is_word ["value"] := ⟨rfl, rfl, scope_by (by decide +kernel), (fun _ _ _ _ _ _ us hl => match us, hl with | [_], _ => rfl), rfl, rfl, k_is_word⟩
theorem m_is_text : Dm nm c_is_text d2 n_is_text ["value"] := ⟨rfl, rfl, scope_by (by decide +kernel), (fun _ _ _ _ _ _ us hl => match us, hl with | [_], _ => rfl), rfl, rfl, k_is_text⟩
theorem m_pieces : Dm nm c_pieces d3 n_pieces ["text"] := ⟨rfl, rfl, scope_by (by decide +kernel), (fun _ _ _ _ _ _ us hl => match us, hl with | [_], _ => rfl), rfl, rfl, k_pieces⟩
theorem m_is_sound : Dm nm c_is_sound d4 n_is_sound ["text"] := ⟨rfl, rfl, scope_by (by decide +kernel), (fun _ _ _ _ _ _ us hl => match us, hl with | [_], _ => rfl), rfl, rfl, k_is_sound⟩
theorem m_places : Dm nm c_places d5 n_places ["text"] := ⟨rfl, rfl, scope_by (by decide +kernel), (fun _ _ _ _ _ _ us hl => match us, hl with | [_], _ => rfl), rfl, rfl, k_places⟩
theorem m_are_different : Dm nm c_are_different d6 n_are_different ["values"] := ⟨rfl, rfl, scope_by (by decide +kernel), (fun _ _ _ _ _ _ us hl => match us, hl with | [_], _ => rfl), rfl, rfl, k_are_different⟩
theorem m_are_words : Dm nm c_are_words d7 n_are_words ["value"] := ⟨rfl, rfl, scope_by (by decide +kernel), (fun _ _ _ _ _ _ us hl => match us, hl with | [_], _ => rfl), rfl, rfl, k_are_words⟩
theorem m_is_content : Dm nm c_is_content d8 n_is_content ["value"] := ⟨rfl, rfl, scope_by (by decide +kernel), (fun _ _ _ _ _ _ us hl => match us, hl with | [_], _ => rfl), rfl, rfl, k_is_content⟩
theorem m_are_arms : Dm nm c_are_arms d9 n_are_arms ["value", "least"] := ⟨rfl, rfl, scope_by (by decide +kernel), (fun _ _ _ _ _ _ us hl => match us, hl with | [_, _], _ => rfl), rfl, rfl, k_are_arms⟩
theorem m_has_parts : Dm nm c_has_parts d10 n_has_parts ["node"] := ⟨rfl, rfl, scope_by (by decide +kernel), (fun _ _ _ _ _ _ us hl => match us, hl with | [_], _ => rfl), rfl, rfl, k_has_parts⟩
theorem m_is_node : Dm nm c_is_node d11 n_is_node ["value"] := ⟨rfl, rfl, scope_by (by decide +kernel), (fun _ _ _ _ _ _ us hl => match us, hl with | [_], _ => rfl), rfl, rfl, k_is_node⟩
theorem m_check_slots : Dm nm c_check_slots d12 n_check_slots ["slots"] := ⟨rfl, rfl, scope_by (by decide +kernel), (fun _ _ _ _ _ _ us hl => match us, hl with | [_], _ => rfl), rfl, rfl, k_check_slots⟩
theorem m_check_nodes : Dm nm c_check_nodes d13 n_check_nodes ["nodes", "j"] := ⟨rfl, rfl, scope_by (by decide +kernel), (fun _ _ _ _ _ _ us hl => match us, hl with | [_, _], _ => rfl), rfl, rfl, k_check_nodes⟩
theorem m_check_charts : Dm nm c_check_charts d14 n_check_charts ["charts"] := ⟨rfl, rfl, scope_by (by decide +kernel), (fun _ _ _ _ _ _ us hl => match us, hl with | [_], _ => rfl), rfl, rfl, k_check_charts⟩
theorem m_back_words : Dm nm c_back_words d15 n_back_words ["nodes"] := ⟨rfl, rfl, scope_by (by decide +kernel), (fun _ _ _ _ _ _ us hl => match us, hl with | [_], _ => rfl), rfl, rfl, k_back_words⟩
theorem m_Links___init__ : Dm nm c_Links___init__ d16 n_Links___init__ ["self", "slots", "charts"] := ⟨rfl, rfl, scope_by (by decide +kernel), (fun _ _ _ _ _ _ us hl => match us, hl with | [_, _, _], _ => rfl), rfl, rfl, k_Links___init__⟩
theorem m_Links_check_slot : Dm nm c_Links_check_slot d17 n_Links_check_slot ["self", "slot", "place"] := ⟨rfl, rfl, scope_by (by decide +kernel), (fun _ _ _ _ _ _ us hl => match us, hl with | [_, _, _], _ => rfl), rfl, rfl, k_Links_check_slot⟩
theorem m_Links_check_content : Dm nm c_Links_check_content d18 n_Links_check_content ["self", "slot", "content", "place"] := ⟨rfl, rfl, scope_by (by decide +kernel), (fun _ _ _ _ _ _ us hl => match us, hl with | [_, _, _, _], _ => rfl), rfl, rfl, k_Links_check_content⟩
theorem m_Links_check_next : Dm nm c_Links_check_next d19 n_Links_check_next ["self", "chart", "names", "place"] := ⟨rfl, rfl, scope_by (by decide +kernel), (fun _ _ _ _ _ _ us hl => match us, hl with | [_, _, _, _], _ => rfl), rfl, rfl, k_Links_check_next⟩
theorem m_Links_check_hand : Dm nm c_Links_check_hand d20 n_Links_check_hand ["self", "node", "place"] := ⟨rfl, rfl, scope_by (by decide +kernel), (fun _ _ _ _ _ _ us hl => match us, hl with | [_, _, _], _ => rfl), rfl, rfl, k_Links_check_hand⟩
theorem m_Links_check_node : Dm nm c_Links_check_node d21 n_Links_check_node ["self", "chart", "node", "place", "is_main"] := ⟨rfl, rfl, scope_by (by decide +kernel), (fun _ _ _ _ _ _ us hl => match us, hl with | [_, _, _, _, _], _ => rfl), rfl, rfl, k_Links_check_node⟩
theorem m_check_links : Dm nm c_check_links d22 n_check_links ["slots", "charts"] := ⟨rfl, rfl, scope_by (by decide +kernel), (fun _ _ _ _ _ _ us hl => match us, hl with | [_, _], _ => rfl), rfl, rfl, k_check_links⟩
theorem m_House___init__ : Dm nm c_House___init__ d23 n_House___init__ ["self", "slots", "charts"] := ⟨rfl, rfl, scope_by (by decide +kernel), (fun _ _ _ _ _ _ us hl => match us, hl with | [_, _, _], _ => rfl), rfl, rfl, k_House___init__⟩
theorem m_House_main : Dm nm c_House_main d24 n_House_main ["self"] := ⟨rfl, rfl, scope_by (by decide +kernel), (fun _ _ _ _ _ _ us hl => match us, hl with | [_], _ => rfl), rfl, rfl, k_House_main⟩
theorem m_House_empty : Dm nm c_House_empty d25 n_House_empty ["self"] := ⟨rfl, rfl, scope_by (by decide +kernel), (fun _ _ _ _ _ _ us hl => match us, hl with | [_], _ => rfl), rfl, rfl, k_House_empty⟩
theorem m_House_slot_names : Dm nm c_House_slot_names d26 n_House_slot_names ["self"] := ⟨rfl, rfl, scope_by (by decide +kernel), (fun _ _ _ _ _ _ us hl => match us, hl with | [_], _ => rfl), rfl, rfl, k_House_slot_names⟩
theorem m_House_has_slot : Dm nm c_House_has_slot d27 n_House_has_slot ["self", "slot"] := ⟨rfl, rfl, scope_by (by decide +kernel), (fun _ _ _ _ _ _ us hl => match us, hl with | [_, _], _ => rfl), rfl, rfl, k_House_has_slot⟩
theorem m_House_has_chart : Dm nm c_House_has_chart d28 n_House_has_chart ["self", "chart"] := ⟨rfl, rfl, scope_by (by decide +kernel), (fun _ _ _ _ _ _ us hl => match us, hl with | [_, _], _ => rfl), rfl, rfl, k_House_has_chart⟩
theorem m_House_has_node : Dm nm c_House_has_node d29 n_House_has_node ["self", "chart", "name"] := ⟨rfl, rfl, scope_by (by decide +kernel), (fun _ _ _ _ _ _ us hl => match us, hl with | [_, _, _], _ => rfl), rfl, rfl, k_House_has_node⟩
theorem m_House_contents : Dm nm c_House_contents d30 n_House_contents ["self", "slot"] := ⟨rfl, rfl, scope_by (by decide +kernel), (fun _ _ _ _ _ _ us hl => match us, hl with | [_, _], _ => rfl), rfl, rfl, k_House_contents⟩
theorem m_House_slot_at : Dm nm c_House_slot_at d31 n_House_slot_at ["self", "slot"] := ⟨rfl, rfl, scope_by (by decide +kernel), (fun _ _ _ _ _ _ us hl => match us, hl with | [_, _], _ => rfl), rfl, rfl, k_House_slot_at⟩
theorem m_House_chart_names : Dm nm c_House_chart_names d32 n_House_chart_names ["self"] := ⟨rfl, rfl, scope_by (by decide +kernel), (fun _ _ _ _ _ _ us hl => match us, hl with | [_], _ => rfl), rfl, rfl, k_House_chart_names⟩
theorem m_House_node_names : Dm nm c_House_node_names d33 n_House_node_names ["self", "chart"] := ⟨rfl, rfl, scope_by (by decide +kernel), (fun _ _ _ _ _ _ us hl => match us, hl with | [_, _], _ => rfl), rfl, rfl, k_House_node_names⟩
theorem m_House_node : Dm nm c_House_node d34 n_House_node ["self", "chart", "name"] := ⟨rfl, rfl, scope_by (by decide +kernel), (fun _ _ _ _ _ _ us hl => match us, hl with | [_, _, _], _ => rfl), rfl, rfl, k_House_node⟩
theorem m_House_first : Dm nm c_House_first d35 n_House_first ["self", "chart"] := ⟨rfl, rfl, scope_by (by decide +kernel), (fun _ _ _ _ _ _ us hl => match us, hl with | [_, _], _ => rfl), rfl, rfl, k_House_first⟩
theorem m_House_backs : Dm nm c_House_backs d36 n_House_backs ["self", "chart"] := ⟨rfl, rfl, scope_by (by decide +kernel), (fun _ _ _ _ _ _ us hl => match us, hl with | [_, _], _ => rfl), rfl, rfl, k_House_backs⟩
theorem m_House_is_sheet : Dm nm c_House_is_sheet d37 n_House_is_sheet ["self", "value"] := ⟨rfl, rfl, scope_by (by decide +kernel), (fun _ _ _ _ _ _ us hl => match us, hl with | [_, _], _ => rfl), rfl, rfl, k_House_is_sheet⟩
theorem m_House_put : Dm nm c_House_put d38 n_House_put ["self", "sheet", "slot", "content"] := ⟨rfl, rfl, scope_by (by decide +kernel), (fun _ _ _ _ _ _ us hl => match us, hl with | [_, _, _, _], _ => rfl), rfl, rfl, k_House_put⟩
theorem m_House_content : Dm nm c_House_content d39 n_House_content ["self", "sheet", "slot"] := ⟨rfl, rfl, scope_by (by decide +kernel), (fun _ _ _ _ _ _ us hl => match us, hl with | [_, _, _], _ => rfl), rfl, rfl, k_House_content⟩
theorem m_sewn_node : Dm nm c_sewn_node d40 n_sewn_node ["node", "outcome", "chart"] := ⟨rfl, rfl, scope_by (by decide +kernel), (fun _ _ _ _ _ _ us hl => match us, hl with | [_, _, _], _ => rfl), rfl, rfl, k_sewn_node⟩
theorem m_need_different : Dm nm c_need_different d41 n_need_different ["first_names", "second_names"] := ⟨rfl, rfl, scope_by (by decide +kernel), (fun _ _ _ _ _ _ us hl => match us, hl with | [_, _], _ => rfl), rfl, rfl, k_need_different⟩
theorem m_sew : Dm nm c_sew d42 n_sew ["first", "outcome", "second"] := ⟨rfl, rfl, scope_by (by decide +kernel), (fun _ _ _ _ _ _ us hl => match us, hl with | [_, _, _], _ => rfl), rfl, rfl, k_sew⟩
theorem m__law_mixed : Dm nm c__law_mixed d43 n__law_mixed ["seed", "k"] := ⟨rfl, rfl, scope_by (by decide +kernel), (fun _ _ _ _ _ _ us hl => match us, hl with | [_, _], _ => rfl), rfl, rfl, k__law_mixed⟩
theorem m__law_draws : Dm nm c__law_draws d44 n__law_draws ["script", "count"] := ⟨rfl, rfl, scope_by (by decide +kernel), (fun _ _ _ _ _ _ us hl => match us, hl with | [_, _], _ => rfl), rfl, rfl, k__law_draws⟩
theorem m__law_slots : Dm nm c__law_slots d45 n__law_slots ["draws", "mode"] := ⟨rfl, rfl, scope_by (by decide +kernel), (fun _ _ _ _ _ _ us hl => match us, hl with | [_, _], _ => rfl), rfl, rfl, k__law_slots⟩
theorem m__law_names : Dm nm c__law_names d46 n__law_names ["shift", "count"] := ⟨rfl, rfl, scope_by (by decide +kernel), (fun _ _ _ _ _ _ us hl => match us, hl with | [_, _], _ => rfl), rfl, rfl, k__law_names⟩
theorem m__law_base : Dm nm c__law_base d47 n__law_base ["draws", "mode"] := ⟨rfl, rfl, scope_by (by decide +kernel), (fun _ _ _ _ _ _ us hl => match us, hl with | [_, _], _ => rfl), rfl, rfl, k__law_base⟩
theorem m__law_kind : Dm nm c__law_kind d48 n__law_kind ["draws", "at", "base", "j", "k"] := ⟨rfl, rfl, scope_by (by decide +kernel), (fun _ _ _ _ _ _ us hl => match us, hl with | [_, _, _, _, _], _ => rfl), rfl, rfl, k__law_kind⟩
theorem m__law_target : Dm nm c__law_target d49 n__law_target ["draws", "at", "base", "j", "k", "kind"] := ⟨rfl, rfl, scope_by (by decide +kernel), (fun _ _ _ _ _ _ us hl => match us, hl with | [_, _, _, _, _, _], _ => rfl), rfl, rfl, k__law_target⟩
theorem m__law_said : Dm nm c__law_said d50 n__law_said ["draws", "at", "slots"] := ⟨rfl, rfl, scope_by (by decide +kernel), (fun _ _ _ _ _ _ us hl => match us, hl with | [_, _, _], _ => rfl), rfl, rfl, k__law_said⟩
theorem m__law_arms : Dm nm c__law_arms d51 n__law_arms ["draws", "at", "base", "j", "k", "kind", "words"] := ⟨rfl, rfl, scope_by (by decide +kernel), (fun _ _ _ _ _ _ us hl => match us, hl with | [_, _, _, _, _, _, _], _ => rfl), rfl, rfl, k__law_arms⟩
theorem m__law_node : Dm nm c__law_node d52 n__law_node ["draws", "at", "base", "j", "k"] := ⟨rfl, rfl, scope_by (by decide +kernel), (fun _ _ _ _ _ _ us hl => match us, hl with | [_, _, _, _, _], _ => rfl), rfl, rfl, k__law_node⟩
theorem m__law_charts : Dm nm c__law_charts d53 n__law_charts ["draws", "mode"] := ⟨rfl, rfl, scope_by (by decide +kernel), (fun _ _ _ _ _ _ us hl => match us, hl with | [_, _], _ => rfl), rfl, rfl, k__law_charts⟩
theorem m__law_same : Dm nm c__law_same d54 n__law_same ["actual", "due"] := ⟨rfl, rfl, scope_by (by decide +kernel), (fun _ _ _ _ _ _ us hl => match us, hl with | [_, _], _ => rfl), rfl, rfl, k__law_same⟩
theorem m__law_new : Dm nm c__law_new d55 n__law_new ["rows", "name"] := ⟨rfl, rfl, scope_by (by decide +kernel), (fun _ _ _ _ _ _ us hl => match us, hl with | [_, _], _ => rfl), rfl, rfl, k__law_new⟩
theorem m__law_new_text : Dm nm c__law_new_text d56 n__law_new_text ["rows", "text"] := ⟨rfl, rfl, scope_by (by decide +kernel), (fun _ _ _ _ _ _ us hl => match us, hl with | [_, _], _ => rfl), rfl, rfl, k__law_new_text⟩
theorem m__law_new_node : Dm nm c__law_new_node d57 n__law_new_node ["slots", "charts", "node"] := ⟨rfl, rfl, scope_by (by decide +kernel), (fun _ _ _ _ _ _ us hl => match us, hl with | [_, _, _], _ => rfl), rfl, rfl, k__law_new_node⟩
theorem m__law_renamed : Dm nm c__law_renamed d58 n__law_renamed ["house", "slots", "charts"] := ⟨rfl, rfl, scope_by (by decide +kernel), (fun _ _ _ _ _ _ us hl => match us, hl with | [_, _, _], _ => rfl), rfl, rfl, k__law_renamed⟩
theorem m__law_sewn : Dm nm c__law_sewn d59 n__law_sewn ["first", "outcome", "second"] := ⟨rfl, rfl, scope_by (by decide +kernel), (fun _ _ _ _ _ _ us hl => match us, hl with | [_, _, _], _ => rfl), rfl, rfl, k__law_sewn⟩
theorem m__law_due : Dm nm c__law_due d60 n__law_due ["first", "outcome", "second"] := ⟨rfl, rfl, scope_by (by decide +kernel), (fun _ _ _ _ _ _ us hl => match us, hl with | [_, _, _], _ => rfl), rfl, rfl, k__law_due⟩
theorem m__law_answer : Dm nm c__law_answer d61 n__law_answer ["first", "outcome", "second"] := ⟨rfl, rfl, scope_by (by decide +kernel), (fun _ _ _ _ _ _ us hl => match us, hl with | [_, _, _], _ => rfl), rfl, rfl, k__law_answer⟩
theorem m_law : Dm nm c_law d62 n_law ["script"] := ⟨rfl, rfl, scope_by (by decide +kernel), (fun _ _ _ _ _ _ us hl => match us, hl with | [_], _ => rfl), rfl, rfl, k_law⟩
theorem mAll : DmAll nm fnT fnD := (.cons m__wall (.cons m_is_word (.cons m_is_text (.cons m_pieces (.cons m_is_sound (.cons m_places (.cons m_are_different (.cons m_are_words (.cons m_is_content (.cons m_are_arms (.cons m_has_parts (.cons m_is_node (.cons m_check_slots (.cons m_check_nodes (.cons m_check_charts (.cons m_back_words (.cons m_Links___init__ (.cons m_Links_check_slot (.cons m_Links_check_content (.cons m_Links_check_next (.cons m_Links_check_hand (.cons m_Links_check_node (.cons m_check_links (.cons m_House___init__ (.cons m_House_main (.cons m_House_empty (.cons m_House_slot_names (.cons m_House_has_slot (.cons m_House_has_chart (.cons m_House_has_node (.cons m_House_contents (.cons m_House_slot_at (.cons m_House_chart_names (.cons m_House_node_names (.cons m_House_node (.cons m_House_first (.cons m_House_backs (.cons m_House_is_sheet (.cons m_House_put (.cons m_House_content (.cons m_sewn_node (.cons m_need_different (.cons m_sew (.cons m__law_mixed (.cons m__law_draws (.cons m__law_slots (.cons m__law_names (.cons m__law_base (.cons m__law_kind (.cons m__law_target (.cons m__law_said (.cons m__law_arms (.cons m__law_node (.cons m__law_charts (.cons m__law_same (.cons m__law_new (.cons m__law_new_text (.cons m__law_new_node (.cons m__law_renamed (.cons m__law_sewn (.cons m__law_due (.cons m__law_answer (.cons m_law .nil)))))))))))))))))))))))))))))))))))))))))))))))))))))))))))))))
theorem x_BadText : ∃ d ∈ fnD, d.at_ = (tb.cnm 3, some ("__init__" : Str)) ∧ ∃ N, Xm nm (PG.xf 3) d N := ⟨d63, by first | exact List.mem_of_getElem? (i := 63) rfl, rfl, ["self", "index"], ⟨rfl, rfl, rfl, scope_by (by decide +kernel), (fun _ _ _ _ _ _ us hl => match us, hl with | [_, _], _ => rfl), rfl, by decide, by decide, by decide, by decide +kernel⟩⟩
theorem x_BadHouse : ∃ d ∈ fnD, d.at_ = (tb.cnm 4, some ("__init__" : Str)) ∧ ∃ N, Xm nm (PG.xf 4) d N := ⟨d64, by first | exact List.mem_of_getElem? (i := 64) rfl, rfl, ["self", "reason", "place"], ⟨rfl, rfl, rfl, scope_by (by decide +kernel), (fun _ _ _ _ _ _ us hl => match us, hl with | [_, _, _], _ => rfl), rfl, by decide, by decide, by decide, by decide +kernel⟩⟩
theorem x_Unknown : ∃ d ∈ fnD, d.at_ = (tb.cnm 5, some ("__init__" : Str)) ∧ ∃ N, Xm nm (PG.xf 5) d N := ⟨d65, by first | exact List.mem_of_getElem? (i := 65) rfl, rfl, ["self", "name"], ⟨rfl, rfl, rfl, scope_by (by decide +kernel), (fun _ _ _ _ _ _ us hl => match us, hl with | [_, _], _ => rfl), rfl, by decide, by decide, by decide, by decide +kernel⟩⟩
theorem x_BadSheet : ∃ d ∈ fnD, d.at_ = (tb.cnm 6, some ("__init__" : Str)) ∧ ∃ N, Xm nm (PG.xf 6) d N := ⟨d66, by first | exact List.mem_of_getElem? (i := 66) rfl, rfl, ["self", "sheet"], ⟨rfl, rfl, rfl, scope_by (by decide +kernel), (fun _ _ _ _ _ _ us hl => match us, hl with | [_, _], _ => rfl), rfl, by decide, by decide, by decide, by decide +kernel⟩⟩
theorem x_BadName : ∃ d ∈ fnD, d.at_ = (tb.cnm 7, some ("__init__" : Str)) ∧ ∃ N, Xm nm (PG.xf 7) d N := ⟨d67, by first | exact List.mem_of_getElem? (i := 67) rfl, rfl, ["self", "name"], ⟨rfl, rfl, rfl, scope_by (by decide +kernel), (fun _ _ _ _ _ _ us hl => match us, hl with | [_, _], _ => rfl), rfl, by decide, by decide, by decide, by decide +kernel⟩⟩
theorem hxr : ∀ x ∈ nm.xr, ∃ d ∈ fnD, d.at_ = (tb.cnm x, some ("__init__" : Str)) ∧ ∃ N, Xm nm (PG.xf x) d N := (List.forall_mem_cons.mpr ⟨x_BadText, (List.forall_mem_cons.mpr ⟨x_BadHouse, (List.forall_mem_cons.mpr ⟨x_Unknown, (List.forall_mem_cons.mpr ⟨x_BadSheet, (List.forall_mem_cons.mpr ⟨x_BadName, (fun _ h => absurd h List.not_mem_nil)⟩)⟩)⟩)⟩)⟩)
theorem hdct : ∀ q ∈ dctL, ∃ (i : Nat) (ks : List Str), ts[i]? = some (fun K => He.ga K q.1, ks) := (List.forall_mem_cons.mpr ⟨⟨0, _, rfl⟩, (fun _ h => absurd h List.not_mem_nil)⟩)
theorem hlists : listsB fnT clT supT tb nm fa conL dctL xinL = true := by decide +kernel
theorem hats : (fnD.map (·.at_)).take fnT.length = dnL := by decide +kernel
def xfF (i : Nat) : List Nat := (xfT.lookup i).getD []
theorem PG_eq : PG = pgOf fnT clT glT supT xfF := rfl
open PySem PySem.W PySem.Calls PyProof.Rows in
theorem holds_of (math : ∀ ns : List Int, ns.length ≤ 63 → ∃ ob, (callN PG 31).1 lawIx [.scr (ns.map .int)] [] = .ok (.val (.bl true)) ob) : PySem.Challenge.rw_talkchart_k61_houses_sewn.Holds := by
  w_on; o_law
  refine HandSHeadRun.head_any (r := OpenLaw.row PySem.Challenge.rw_talkchart_k61_houses_sewn) (q := qv) (H := hk) (ob := obs) (M := 5000) (loose := names) (d := HandSHeadRun.topDef (OpenLaw.row PySem.Challenge.rw_talkchart_k61_houses_sewn).prog 65) (kwd := []) obs_eq
    (by kernel_rfl) (fun s => by kernel_rfl) run (by kernel_rfl) (by kernel_rfl) (by kernel_rfl) (by rfl) (by first | assumption | decide +kernel) (by decide +kernel) ⟨rfl, rfl, rfl, rfl, rfl, by decide +kernel⟩ ?hw ?hc
  case hw => w_witness2
  case hc =>
    refine walk_w (l := PySem.Challenge.rw_talkchart_k61_houses_sewn) (n := 63) (k := 33) (x := "script") (CX := fun w => L2.CX (PySem.Challenge.rw_talkchart_k61_houses_sewn).prog w) rfl (by decide) (by kernel_rfl) ⟨rfl, by decide, by decide⟩ ?F (fun w H s e s' => cx_false _ w H s e s')
    intro w mg fa' h Y G hmg
    obtain ⟨K, KX, c⟩ := Y
    exact law_end (n := 30) (ix := lawIx) (Fl := c_law) (d := d62) (N := n_law) (ps := ["script"]) (inj := inj) (by kernel_rfl) rfl rfl c KX G hmg (gloIn_ok (by decide +kernel)) rfl
      (fun base => facts_of c KX G hlists rfl rfl rfl rfl rfl hdct mAll hats rfl hxr) rfl (List.mem_of_getElem? (i := 62) rfl) rfl m_law math
end Tk.K61
/- Wp -/
set_option Elab.async false
set_option linter.all false
set_option maxRecDepth 100000
/-! Tk.Wp: the evaluator in equations, what holds behind a run. -/
namespace Tk.WP
open PySem PyProof.Rows
/-- not seen as rfl: simp writes its steps down -/
theorem nrfl {α : Sort u} {a : α} : a = a := eq_of_heq (HEq.refl a)
/-! ### what holds behind a run -/
def _root_.Tk.R.post {α : Type} (r : R α) (Q : α → Sg → Prop) (E : Nat → List D → List Ob → Prop) : Prop := match r with
  | .ok a S => Q a S
  | .exc c fs S => E c fs S.ob
  | .bad => False
def brB {α : Type} (m : M) (x y : R α) : R α := match m with
  | .val (.bl true) => x
  | .val (.bl false) => y
  | _ => .bad
def brO {α : Type} (m : Option M) (x y : R α) : R α := match m with
  | some (.val (.bl true)) => x
  | some (.val (.bl false)) => y
  | _ => .bad
def notB (m : M) (S : Sg) : R M := match m with
  | .val (.bl b) => .ok (.val (.bl (!b))) S
  | _ => .bad
def thenS (r : RS) (f : Sg → RS) : RS := match r with
  | .ok .nx S => f S
  | r => r
def bindO {α β : Type} (o : Option α) (f : α → R β) : R β := match o with
  | some a => f a
  | none => .bad
def makeR (r : Rc) (i : Nat) (sl : List (Option M)) : R M := match r with
  | .ok (.val .non) ob => .ok (.val (.obj i)) ⟨sl, ob⟩
  | .ok _ _ => .bad
  | .exc c fs ob => .exc c fs ⟨sl, ob⟩
  | .bad => .bad
def outR (r : RS) : Rc := match r with
  | .ok (.ret m) S => .ok m S.ob
  | .ok .nx S => .ok (.val .non) S.ob
  | .exc c fs S => .exc c fs S.ob
  | _ => .bad
section
variable {α β : Type} {a : α} {S : Sg} {f : α → Sg → R β} {Q : α → Sg → Prop} {E : Nat → List D → List Ob → Prop} {x y : R α} {c : Nat} {fs : List D}
@[simp] theorem bind_ok : (R.ok a S).bind f = f a S := nrfl
@[simp] theorem bind_exc : (R.exc c fs S : R α).bind f = .exc c fs S := nrfl
@[simp] theorem bind_bad : (R.bad : R α).bind f = .bad := nrfl
@[simp] theorem bind_ite {p : Prop} [Decidable p] : (if p then x else y).bind f = if p then x.bind f else y.bind f := by split <;> rfl
@[simp] theorem post_ok : (R.ok a S).post Q E = Q a S := nrfl
@[simp] theorem post_exc : (R.exc c fs S : R α).post Q E = E c fs S.ob := nrfl
@[simp] theorem post_bad : (R.bad : R α).post Q E = False := nrfl
@[simp] theorem post_ite {p : Prop} [Decidable p] : (if p then x else y).post Q E = if p then x.post Q E else y.post Q E := by split <;> rfl
theorem post_bind {Q : β → Sg → Prop} : (x.bind f).post Q E = x.post (fun a S => (f a S).post Q E) E := by cases x <;> rfl
@[simp] theorem opt_some : opt (some a) S = .ok a S := nrfl
@[simp] theorem opt_none : opt (none : Option α) S = .bad := nrfl
@[simp] theorem brB_bl {b : Bool} : brB (.val (.bl b)) x y = if b = true then x else y := by cases b <;> rfl
@[simp] theorem brO_bl {b : Bool} : brO (some (.val (.bl b))) x y = if b = true then x else y := by cases b <;> rfl
@[simp] theorem notB_bl {b : Bool} : notB (.val (.bl b)) S = .ok (.val (.bl (!b))) S := nrfl
@[simp] theorem thenS_nx {f : Sg → RS} : thenS (.ok .nx S) f = f S := nrfl
@[simp] theorem thenS_ret {f : Sg → RS} {m : M} : thenS (.ok (.ret m) S) f = .ok (.ret m) S := nrfl
@[simp] theorem thenS_brk {f : Sg → RS} : thenS (.ok .brk S) f = .ok .brk S := nrfl
@[simp] theorem thenS_cnt {f : Sg → RS} : thenS (.ok .cnt S) f = .ok .cnt S := nrfl
@[simp] theorem thenS_exc {f : Sg → RS} : thenS (.exc c fs S) f = .exc c fs S := nrfl
@[simp] theorem thenS_bad {f : Sg → RS} : thenS .bad f = .bad := nrfl
@[simp] theorem thenS_ite {f : Sg → RS} {p : Prop} [Decidable p] {x y : RS} : thenS (if p then x else y) f = if p then thenS x f else thenS y f := by split <;> rfl
@[simp] theorem thenS_id {r : RS} : thenS r (fun S => R.ok .nx S) = r := by
  cases r with
  | ok fl S => cases fl <;> rfl
  | exc => rfl
  | bad => rfl
@[simp] theorem bindO_some {f : α → R β} : bindO (some a) f = f a := nrfl
@[simp] theorem bindO_none {f : α → R β} : bindO none f = .bad := nrfl
@[simp] theorem makeR_ok {i : Nat} {sl : List (Option M)} {ob : List Ob} : makeR (.ok (.val .non) ob) i sl = .ok (.val (.obj i)) ⟨sl, ob⟩ := nrfl
@[simp] theorem makeR_exc {i : Nat} {sl : List (Option M)} {ob : List Ob} : makeR (.exc c fs ob) i sl = .exc c fs ⟨sl, ob⟩ := nrfl
@[simp] theorem outR_ret {m : M} : outR (.ok (.ret m) S) = .ok m S.ob := nrfl
@[simp] theorem outR_nx : outR (.ok .nx S) = .ok (.val .non) S.ob := nrfl
@[simp] theorem outR_exc : outR (.exc c fs S) = .exc c fs S.ob := nrfl
@[simp] theorem outR_ite {p : Prop} [Decidable p] {x y : RS} : outR (if p then x else y) = if p then outR x else outR y := by split <;> rfl
@[simp] theorem r_ok {m : M} {ob : List Ob} {sl : List (Option M)} : (Rc.ok m ob).r sl = .ok m ⟨sl, ob⟩ := nrfl
@[simp] theorem r_exc {ob : List Ob} {sl : List (Option M)} : (Rc.exc c fs ob).r sl = .exc c fs ⟨sl, ob⟩ := nrfl
@[simp] theorem r_ite {p : Prop} [Decidable p] {x y : Rc} {sl : List (Option M)} : (if p then x else y).r sl = if p then x.r sl else y.r sl := by split <;> rfl
@[simp] theorem nox_ok : (R.ok a S).nox = .ok a S := nrfl
@[simp] theorem ok_and {b d : Bool} : (if b = true then R.ok (M.val (.bl d)) S else R.ok (M.val (.bl false)) S) = R.ok (M.val (.bl (b && d))) S := by cases b <;> rfl
@[simp] theorem ok_or {b d : Bool} : (if b = true then R.ok (M.val (.bl true)) S else R.ok (M.val (.bl d)) S) = R.ok (M.val (.bl (b || d))) S := by cases b <;> rfl
@[simp] theorem ok_same {b : Prop} [Decidable b] : (if b then R.ok a S else R.ok a S) = R.ok a S := by split <;> rfl
theorem post_mono {Q' : α → Sg → Prop} {E' : Nat → List D → List Ob → Prop} (h : x.post Q E) (h1 : ∀ a S, Q a S → Q' a S) (h2 : ∀ c fs ob, E c fs ob → E' c fs ob) : x.post Q' E' := by
  cases x with
  | ok a S => exact h1 _ _ h
  | exc c fs S => exact h2 _ _ _ h
  | bad => exact h
theorem post_then {r : RS} {f : Sg → RS} {Q : Fl → Sg → Prop} : (thenS r f).post Q E = r.post (fun fl S => match fl with | .nx => (f S).post Q E | fl => Q fl S) E := by
  cases r with
  | ok fl S => cases fl <;> rfl
  | exc => rfl
  | bad => rfl
end
/-! ### the evaluator, in equations -/
section
variable {P : Prog} {c1 c0 : CallFn} {S : Sg} {e e1 e2 e3 : CE} {es' : CEs} {i : Nat}
@[simp] theorem e_cst {d : D} : ev P c1 c0 (.cst d) S = .ok (.val d) S := nrfl
@[simp] theorem e_var : ev P c1 c0 (.var i) S = opt ((S.sl[i]?.join).bind M.only) S := nrfl
@[simp] theorem e_frz : ev P c1 c0 (.frz i) S = bindO (S.sl[i]?.join) fun m => .ok (.val m.fz) ⟨setSl S.sl i (.val m.fz), S.ob⟩ := by
  simp only [ev]; cases S.sl[i]?.join <;> rfl
@[simp] theorem e_mov : ev P c1 c0 (.mov i) S = bindO (S.sl[i]?.join) fun m => .ok m ⟨S.sl.set i none, S.ob⟩ := by
  simp only [ev]; cases S.sl[i]?.join <;> rfl
@[simp] theorem e_glo : ev P c1 c0 (.glo i) S = opt ((P.gl i).map .val) S := nrfl
@[simp] theorem e_fld {f : Nat} : ev P c1 c0 (.fld e f) S = (ev P c1 c0 e S).bind fun m S => opt ((fieldOf S.ob m f).bind M.only) S := nrfl
@[simp] theorem e_pk : ev P c1 c0 (.pk i) S = opt (S.sl[i]?.join) S := nrfl
@[simp] theorem e_pkf {f : Nat} : ev P c1 c0 (.pkf e f) S = (ev P c1 c0 e S).bind fun m S => opt (fieldOf S.ob m f) S := nrfl
@[simp] theorem e_pki : ev P c1 c0 (.pki e e1) S = (ev P c1 c0 e S).bind fun m S => (ev P c1 c0 e1 S).bind fun d S => opt (m.at_ d.fz) S := nrfl
@[simp] theorem e_fz : ev P c1 c0 (.fz e) S = (ev P c1 c0 e S).bind fun m S => .ok (.val m.fz) S := nrfl
@[simp] theorem e_tup : ev P c1 c0 (.tup es') S = (evs P c1 c0 es' S).bind fun ms S => if ms.length ≤ line then .ok (.val (.tup (M.fzs ms))) S else .bad := nrfl
@[simp] theorem e_lst : ev P c1 c0 (.lst es') S = (evs P c1 c0 es' S).bind fun ms S => if ms.length ≤ line then .ok (.lst ms) S else .bad := nrfl
@[simp] theorem e_dnew : ev P c1 c0 .dnew S = .ok (.dct []) S := nrfl
@[simp] theorem e_op {o : Op} : ev P c1 c0 (.op o es') S = (evs P c1 c0 es' S).bind fun ms S => opt (doOp P S.ob o ms) S := nrfl
@[simp] theorem e_chn {o1 o2 : Op} : ev P c1 c0 (.chn o1 o2 e e1 e2) S = (ev P c1 c0 e S).bind fun x S => (ev P c1 c0 e1 S).bind fun y S => brO (doOp P S.ob o1 [x, y]) ((ev P c1 c0 e2 S).bind fun z S => opt (doOp P S.ob o2 [y, z]) S) (.ok (.val (.bl false)) S) := nrfl
@[simp] theorem e_and : ev P c1 c0 (.and es') S = evAnd P c1 c0 es' S := nrfl
@[simp] theorem e_or : ev P c1 c0 (.or es') S = evOr P c1 c0 es' S := nrfl
@[simp] theorem e_not : ev P c1 c0 (.not e) S = (ev P c1 c0 e S).bind fun m S => notB m S := nrfl
@[simp] theorem e_ite : ev P c1 c0 (.ite e e1 e2) S = (ev P c1 c0 e S).bind fun m S => brB m (ev P c1 c0 e1 S) (ev P c1 c0 e2 S) := nrfl
@[simp] theorem e_rng : ev P c1 c0 (.rng es') S = (evs P c1 c0 es' S).bind fun ms S => opt ((rangeL ms).map fun xs => .val (.lst xs)) S := nrfl
@[simp] theorem e_call {f : Nat} : ev P c1 c0 (.call f es') S = (evs P c1 c0 es' S).bind fun ms S => (c1 f (M.fzs ms) S.ob).r S.sl := nrfl
@[simp] theorem e_meth {m : Nat} : ev P c1 c0 (.meth m e es') S = (ev P c1 c0 e S).bind fun d S => bindO (methOf P S.ob d m) fun f => (evs P c1 c0 es' S).bind fun ms S => (c1 f (d.fz :: M.fzs ms) S.ob).r S.sl := by
  show R.bind _ _ = _; congr 1; funext d S; cases methOf P S.ob d m <;> rfl
@[simp] theorem e_make {C : Nat} : ev P c1 c0 (.make C es') S = (evs P c1 c0 es' S).bind fun ms S => bindO (P.cl C) fun cl => makeR (c0 cl.init (.obj S.ob.length :: M.fzs ms) (S.ob ++ [⟨C, []⟩])) S.ob.length S.sl := by
  show R.bind _ _ = _; congr 1; funext d S; cases P.cl C <;> rfl
def compBody (P : Prog) (c1 c0 : CallFn) (own tg : List Nat) (one : Bool) (cds : CEs) (elt : CE) (d : D) (S : Sg) : R (Option M) :=
  bindO (bindT S.sl tg one (.val d)) fun sl => (evAnd P c1 c0 cds ⟨sl, S.ob⟩).bind fun b S => brB b ((ev P c1 c0 elt S).bind fun m S => .ok (some m) ⟨wipeSl S.sl own, S.ob⟩) (.ok none ⟨wipeSl S.sl own, S.ob⟩)
@[simp] theorem e_comp {own tg : List Nat} {one : Bool} {cds : CEs} : ev P c1 c0 (.comp own tg one e cds e1) S = (ev P c1 c0 e S).bind fun m S => bindO m.items fun xs => ((cloop (compBody P c1 c0 own tg one cds e1) xs ⟨wipeSl S.sl own, S.ob⟩).nox).bind fun ms S => if ms.length ≤ line then .ok (.lst ms) S else .bad := by
  rw [show ev P c1 c0 (.comp own tg one e cds e1) S = (ev P c1 c0 e S).bind fun m S => match m.items with
    | some xs => ((cloop (fun d S => match bindT S.sl tg one (.val d) with
        | some sl => (evAnd P c1 c0 cds ⟨sl, S.ob⟩).bind fun b S => (match b with
          | .val (.bl true) => (ev P c1 c0 e1 S).bind fun m S => .ok (some m) ⟨wipeSl S.sl own, S.ob⟩
          | .val (.bl false) => .ok none ⟨wipeSl S.sl own, S.ob⟩
          | _ => .bad)
        | none => .bad) xs ⟨wipeSl S.sl own, S.ob⟩).nox).bind fun ms S => if ms.length ≤ line then .ok (.lst ms) S else .bad
    | none => .bad from rfl]
  congr 1; funext m S
  have e : (fun (d : D) (S : Sg) => match bindT S.sl tg one (.val d) with
        | some sl => (evAnd P c1 c0 cds ⟨sl, S.ob⟩).bind fun b S => (match b with
          | .val (.bl true) => (ev P c1 c0 e1 S).bind fun m S => .ok (some m) ⟨wipeSl S.sl own, S.ob⟩
          | .val (.bl false) => .ok none ⟨wipeSl S.sl own, S.ob⟩
          | _ => .bad)
        | none => .bad) = compBody P c1 c0 own tg one cds e1 := by
    funext d S
    unfold compBody
    cases bindT S.sl tg one (.val d) <;> rfl
  rw [e]
  cases m.items <;> rfl
@[simp] theorem es_nil : evs P c1 c0 .nil S = .ok [] S := nrfl
@[simp] theorem es_cons : evs P c1 c0 (.cons e es') S = (ev P c1 c0 e S).bind fun m S => (evs P c1 c0 es' S).bind fun ms S => .ok (m :: ms) S := nrfl
@[simp] theorem ea_nil : evAnd P c1 c0 .nil S = .ok (.val (.bl true)) S := nrfl
@[simp] theorem ea_cons : evAnd P c1 c0 (.cons e es') S = (ev P c1 c0 e S).bind fun m S => brB m (evAnd P c1 c0 es' S) (.ok (.val (.bl false)) S) := nrfl
@[simp] theorem eo_nil : evOr P c1 c0 .nil S = .ok (.val (.bl false)) S := nrfl
@[simp] theorem eo_cons : evOr P c1 c0 (.cons e es') S = (ev P c1 c0 e S).bind fun m S => brB m (.ok (.val (.bl true)) S) (evOr P c1 c0 es' S) := by
  rw [show evOr P c1 c0 (.cons e es') S = (ev P c1 c0 e S).bind fun m S => match m with
    | .val (.bl false) => evOr P c1 c0 es' S
    | .val (.bl true) => .ok (.val (.bl true)) S
    | _ => .bad from rfl]
  congr 1; funext m S
  unfold brB
  split <;> first | rfl | (split <;> first | rfl | simp_all)
variable {s : CS} {ss a b : CSs} {is : List Nat} {f : Nat}
@[simp] theorem s_asg : es P c1 c0 (.asg i e) S = (ev P c1 c0 e S).bind fun m S => .ok .nx ⟨setSl S.sl i m, S.ob⟩ := nrfl
@[simp] theorem s_asgt : es P c1 c0 (.asgt is e) S = (ev P c1 c0 e S).bind fun m S => bindO (bindT S.sl is false m) fun sl => .ok .nx ⟨sl, S.ob⟩ := by
  show R.bind _ _ = _; congr 1; funext m S; cases bindT S.sl is false m <;> rfl
@[simp] theorem s_aug {o : Op} : es P c1 c0 (.aug i o e) S = (ev P c1 c0 (.var i) S).bind fun a S => (ev P c1 c0 e S).bind fun b S => bindO (doAug o a b) fun m => .ok .nx ⟨setSl S.sl i m, S.ob⟩ := by
  show R.bind _ _ = _; congr 1; funext m S; show R.bind _ _ = _; congr 1; funext b S; cases doAug o m b <;> rfl
@[simp] theorem s_setf : es P c1 c0 (.setf e f e1) S = (ev P c1 c0 e1 S).bind fun m S => (ev P c1 c0 e S).bind fun d S => bindO (setField P S.ob d f m) fun ob => .ok .nx ⟨S.sl, ob⟩ := by
  show R.bind _ _ = _; congr 1; funext m S; show R.bind _ _ = _; congr 1; funext b S; cases setField P S.ob b f m <;> rfl
def isDct : Option M → Option (List (D × M))
  | some (.dct k) => some k
  | _ => none
def isLst : Option M → Option (List M)
  | some (.lst k) => some k
  | _ => none
@[simp] theorem isDct_some {k : List (D × M)} : isDct (some (.dct k)) = some k := nrfl
@[simp] theorem isLst_some {k : List M} : isLst (some (.lst k)) = some k := nrfl
@[simp] theorem s_seti : es P c1 c0 (.seti i e e1) S = (ev P c1 c0 e1 S).bind fun m S => bindO (isDct S.sl[i]?.join) fun _ => (ev P c1 c0 e S).bind fun k S => bindO (isDct S.sl[i]?.join) fun kvs => if k.fz.isKey && decide (kvs.length < line) then .ok .nx ⟨setSl S.sl i (.dct (putK k.fz m kvs)), S.ob⟩ else .bad := by
  rw [show es P c1 c0 (.seti i e e1) S = (ev P c1 c0 e1 S).bind fun m S => match S.sl[i]?.join with
    | some (.dct _) => (ev P c1 c0 e S).bind fun k S => (match S.sl[i]?.join with
      | some (.dct kvs) => if k.fz.isKey && decide (kvs.length < line) then .ok .nx ⟨setSl S.sl i (.dct (putK k.fz m kvs)), S.ob⟩ else .bad
      | _ => .bad)
    | _ => .bad from rfl]
  congr 1; funext m S
  have key : ∀ (o : Option M) (g : List (D × M) → RS), (match o with | some (.dct kvs) => g kvs | _ => .bad) = bindO (isDct o) g := fun o g => by
    rcases o with _ | m
    · rfl
    · cases m <;> rfl
  rw [key _ fun _ => _]
  congr 1; funext _; congr 1; funext k S
  rw [key _ fun _ => _]
@[simp] theorem s_setfi : es P c1 c0 (.setfi e f e1 e2) S = (ev P c1 c0 e2 S).bind fun m S => (ev P c1 c0 e S).bind fun d S => bindO (isDct (fieldOf S.ob d f)) fun _ => (ev P c1 c0 e1 S).bind fun k S => bindO (isDct (fieldOf S.ob d f)) fun kvs => if k.fz.isKey && decide (kvs.length < line) then bindO (setField P S.ob d f (.dct (putK k.fz m kvs))) (fun ob => .ok .nx ⟨S.sl, ob⟩) else .bad := by
  rw [show es P c1 c0 (.setfi e f e1 e2) S = (ev P c1 c0 e2 S).bind fun m S => (ev P c1 c0 e S).bind fun d S => match fieldOf S.ob d f with
    | some (.dct _) => (ev P c1 c0 e1 S).bind fun k S => (match fieldOf S.ob d f with
      | some (.dct kvs) => if k.fz.isKey && decide (kvs.length < line) then (match setField P S.ob d f (.dct (putK k.fz m kvs)) with
        | some ob => .ok .nx ⟨S.sl, ob⟩
        | none => .bad) else .bad
      | _ => .bad)
    | _ => .bad from rfl]
  congr 1; funext m S; congr 1; funext d S
  have key : ∀ (o : Option M) (g : List (D × M) → RS), (match o with | some (.dct kvs) => g kvs | _ => .bad) = bindO (isDct o) g := fun o g => by
    rcases o with _ | m
    · rfl
    · cases m <;> rfl
  rw [key _ fun _ => _]
  congr 1; funext _; congr 1; funext k S
  rw [key _ fun _ => _]
  congr 1; funext kvs
  cases setField P S.ob d f (.dct (putK k.fz m kvs)) <;> rfl
@[simp] theorem s_app : es P c1 c0 (.app i e) S = bindO (isLst S.sl[i]?.join) fun _ => (ev P c1 c0 e S).bind fun m S => bindO (isLst S.sl[i]?.join) fun ms => if ms.length < line then .ok .nx ⟨setSl S.sl i (.lst (ms ++ [m])), S.ob⟩ else .bad := by
  have key : ∀ (o : Option M) (g : List M → RS), (match o with | some (.lst kvs) => g kvs | _ => .bad) = bindO (isLst o) g := fun o g => by
    rcases o with _ | m
    · rfl
    · cases m <;> rfl
  rw [show es P c1 c0 (.app i e) S = match S.sl[i]?.join with
    | some (.lst _) => (ev P c1 c0 e S).bind fun m S => (match S.sl[i]?.join with
      | some (.lst ms) => if ms.length < line then .ok .nx ⟨setSl S.sl i (.lst (ms ++ [m])), S.ob⟩ else .bad
      | _ => .bad)
    | _ => .bad from rfl]
  rw [key _ fun _ => _]
  congr 1; funext _; congr 1; funext k S
  rw [key _ fun _ => _]
@[simp] theorem s_exp : es P c1 c0 (.exp e) S = (ev P c1 c0 e S).bind fun _ S => .ok .nx S := nrfl
@[simp] theorem s_ret : es P c1 c0 (.ret e) S = (ev P c1 c0 e S).bind fun m S => .ok (.ret m) S := nrfl
@[simp] theorem s_retn : es P c1 c0 .retn S = .ok (.ret (.val .non)) S := nrfl
@[simp] theorem s_ite : es P c1 c0 (.ite e a b) S = (ev P c1 c0 e S).bind fun m S => brB m (ess P c1 c0 a S) (ess P c1 c0 b S) := nrfl
theorem s_whl : es P c1 c0 (.whl e b) S = wloop (ev P c1 c0 e) (ess P c1 c0 b) fuel S := nrfl
def forBody (P : Prog) (c1 c0 : CallFn) (tg : List Nat) (one : Bool) (b : CSs) (d : D) (S : Sg) : RS := bindO (bindT S.sl tg one (.val d)) fun sl => ess P c1 c0 b ⟨sl, S.ob⟩
@[simp] theorem s_for {tg : List Nat} {one : Bool} : es P c1 c0 (.for tg one e b) S = (ev P c1 c0 e S).bind fun m S => bindO m.items fun xs => floop (forBody P c1 c0 tg one b) xs S := by
  rw [show es P c1 c0 (.for tg one e b) S = (ev P c1 c0 e S).bind fun m S => match m.items with
    | some xs => floop (fun d S => match bindT S.sl tg one (.val d) with
      | some sl => ess P c1 c0 b ⟨sl, S.ob⟩
      | none => .bad) xs S
    | none => .bad from rfl]
  congr 1; funext m S
  have e : (fun (d : D) (S : Sg) => match bindT S.sl tg one (.val d) with
      | some sl => ess P c1 c0 b ⟨sl, S.ob⟩
      | none => (R.bad : RS)) = forBody P c1 c0 tg one b := by
    funext d S
    unfold forBody
    cases bindT S.sl tg one (.val d) <;> rfl
  rw [e]
  cases m.items <;> rfl
@[simp] theorem s_rais {c : Nat} : es P c1 c0 (.rais c es') S = (evs P c1 c0 es' S).bind fun ms S => if P.sup c c && decide (ms.length = (P.xf c).length) && decide (ms.length ≤ 1000) then .exc c (M.fzs ms) S else .bad := nrfl
def tryR (P : Prog) (c : Nat) (j : Option Nat) (suite : XS) (r : RS) : RS := match r with
  | .exc c' fs S => if P.sup c' c = true then
      bindO (exS P c' fs suite) (fun f => match j with
        | some i => if i < S.sl.length then .ok f ⟨S.sl.set i none, S.ob⟩ else .bad
        | none => .ok f S)
    else .exc c' fs S
  | r => r
@[simp] theorem s_try {c : Nat} {j : Option Nat} {suite : XS} : es P c1 c0 (.try_ b c j suite) S = tryR P c j suite (ess P c1 c0 b S) := by
  show (match ess P c1 c0 b S with | .exc c' fs S => _ | r => r) = _
  unfold tryR
  cases ess P c1 c0 b S with
  | ok => rfl
  | bad => rfl
  | exc c' fs S =>
    dsimp only
    split
    · cases exS P c' fs suite <;> rfl
    · rfl
@[simp] theorem tryR_ok {c : Nat} {j : Option Nat} {suite : XS} {f : Fl} : tryR P c j suite (.ok f S) = .ok f S := nrfl
@[simp] theorem s_pass : es P c1 c0 .pass S = .ok .nx S := nrfl
@[simp] theorem s_brk : es P c1 c0 .brk S = .ok .brk S := nrfl
@[simp] theorem s_cnt : es P c1 c0 .cnt S = .ok .cnt S := nrfl
@[simp] theorem ss_nil : ess P c1 c0 .nil S = .ok .nx S := nrfl
@[simp] theorem ss_cons : ess P c1 c0 (.cons s ss) S = thenS (es P c1 c0 s S) fun S => ess P c1 c0 ss S := by
  rw [show ess P c1 c0 (.cons s ss) S = match es P c1 c0 s S with | .ok .nx S => ess P c1 c0 ss S | r => r from rfl]
  cases es P c1 c0 s S with
  | ok fl S => cases fl <;> rfl
  | exc => rfl
  | bad => rfl
end
/-! ### loops -/
section
variable {Q : Fl → Sg → Prop} {E : Nat → List D → List Ob → Prop} {f : D → Sg → RS}
theorem floop_post {τ : Type} {enc : τ → D} {ts : List τ} {S : Sg} (I : List τ → Sg → Prop) (h0 : I ts S)
    (hs : ∀ t r S, I (t :: r) S → (f (enc t) S).post (fun fl S' => match fl with | .nx => I r S' | .cnt => I r S' | .brk => Q .nx S' | .ret m => Q (.ret m) S') E)
    (h1 : ∀ S, I [] S → Q .nx S) : (floop f (ts.map enc) S).post Q E := by
  induction ts generalizing S with
  | nil => exact h1 _ h0
  | cons t r ih =>
    have z := hs t r S h0
    show (floop f (enc t :: r.map enc) S).post Q E
    unfold floop
    revert z
    cases f (enc t) S with
    | bad => exact fun z => z
    | exc => exact fun z => z
    | ok fl S' => cases fl with
      | nx => exact fun z => ih z
      | cnt => exact fun z => ih z
      | brk => exact fun z => z
      | ret m => exact fun z => z
theorem floop_pre {τ : Type} {enc : τ → D} {ts : List τ} {S : Sg} (I : List τ → Sg → Prop) (h0 : I [] S)
    (hs : ∀ pre t r S, ts = pre ++ t :: r → I pre S → (f (enc t) S).post (fun fl S' => match fl with | .nx => I (pre ++ [t]) S' | .cnt => I (pre ++ [t]) S' | .brk => Q .nx S' | .ret m => Q (.ret m) S') E)
    (h1 : ∀ S, I ts S → Q .nx S) : (floop f (ts.map enc) S).post Q E := by
  refine floop_post (fun r S => ∃ pre, ts = pre ++ r ∧ I pre S) ⟨[], rfl, h0⟩ ?_ ?_
  · rintro t r S ⟨pre, e, h⟩
    refine post_mono (hs pre t r S e h) (fun fl S' z => ?_) fun _ _ _ z => z
    cases fl with
    | nx => exact ⟨pre ++ [t], by rw [e, List.append_assoc]; rfl, z⟩
    | cnt => exact ⟨pre ++ [t], by rw [e, List.append_assoc]; rfl, z⟩
    | brk => exact z
    | ret m => exact z
  · rintro S ⟨pre, e, h⟩
    rw [List.append_nil] at e
    exact h1 S (e ▸ h)
theorem floop_rng {τ : Type} (xs : List τ) {S : Sg} (I : List τ → Sg → Prop) (h0 : I [] S)
    (hs : ∀ pre x r S, xs = pre ++ x :: r → I pre S → (f (.int (pre.length : Int)) S).post (fun fl S' => match fl with | .nx => I (pre ++ [x]) S' | .cnt => I (pre ++ [x]) S' | .brk => Q .nx S' | .ret m => Q (.ret m) S') E)
    (h1 : ∀ S, I xs S → Q .nx S) : (floop f ((List.range xs.length).map fun k : Nat => D.int (k : Int)) S).post Q E := by
  refine floop_pre (fun ks S => ∃ pre r, xs = pre ++ r ∧ ks = List.range pre.length ∧ I pre S) ⟨[], xs, rfl, rfl, h0⟩ ?_ ?_
  · rintro ks k r S e ⟨pre, rest, e2, e3, h⟩
    have hl := congrArg List.length e
    rw [List.length_range, List.length_append, List.length_cons, e3, List.length_range, e2, List.length_append] at hl
    obtain ⟨x, rest, rfl⟩ : ∃ x t, rest = x :: t := by
      cases rest with
      | nil => simp at hl
      | cons x t => exact ⟨x, t, rfl⟩
    have hk : k = pre.length := by
      have h1 : (List.range xs.length)[pre.length]? = some k := by
        rw [e, e3, List.getElem?_append_right (by rw [List.length_range]; exact Nat.le_refl _), List.length_range, Nat.sub_self]; rfl
      rw [List.getElem?_range (by rw [e2, List.length_append, List.length_cons]; omega)] at h1
      exact (Option.some.inj h1).symm
    subst hk
    refine post_mono (hs pre x rest S e2 h) (fun fl S' z => ?_) fun _ _ _ z => z
    have nx : I (pre ++ [x]) S' → ∃ pre' r, xs = pre' ++ r ∧ ks ++ [pre.length] = List.range pre'.length ∧ I pre' S' := fun z =>
      ⟨pre ++ [x], rest, by rw [e2, List.append_assoc]; rfl, by rw [e3, List.length_append, List.length_singleton, List.range_succ], z⟩
    cases fl with
    | nx => exact nx z
    | cnt => exact nx z
    | brk => exact z
    | ret m => exact z
  · rintro S ⟨pre, r, e, e2, h⟩
    have hl := congrArg List.length e2
    rw [List.length_range, List.length_range, e, List.length_append] at hl
    have : r = [] := List.length_eq_zero_iff.mp (by omega)
    subst this
    rw [List.append_nil] at e
    exact h1 S (e ▸ h)
theorem floop_postD {xs : List D} {S : Sg} (I : List D → Sg → Prop) (h0 : I xs S)
    (hs : ∀ t r S, I (t :: r) S → (f t S).post (fun fl S' => match fl with | .nx => I r S' | .cnt => I r S' | .brk => Q .nx S' | .ret m => Q (.ret m) S') E)
    (h1 : ∀ S, I [] S → Q .nx S) : (floop f xs S).post Q E := by
  have := floop_post (enc := id) (Q := Q) (E := E) (f := f) (ts := xs) I h0 hs h1
  rwa [List.map_id] at this
theorem cloop_ok {τ : Type} {enc : τ → D} {f : D → Sg → R (Option M)} {S : Sg} (g : τ → Option M) : ∀ {ts : List τ}, (∀ t ∈ ts, f (enc t) S = .ok (g t) S) → cloop f (ts.map enc) S = .ok (ts.filterMap g) S
  | [], _ => rfl
  | t :: r, h => by
    show cloop f (enc t :: r.map enc) S = _
    unfold cloop
    rw [h t List.mem_cons_self, bind_ok, cloop_ok (ts := r) g fun t ht => h t (List.mem_cons_of_mem _ ht), bind_ok]
    cases q : g t with
    | none => rw [List.filterMap_cons_none q]
    | some m => rw [List.filterMap_cons_some q]
theorem cloop_map {τ : Type} {enc : τ → D} {f : D → Sg → R (Option M)} {S : Sg} (g : τ → M) {ts : List τ} (h : ∀ t ∈ ts, f (enc t) S = .ok (some (g t)) S) : cloop f (ts.map enc) S = .ok (ts.map g) S := by
  rw [cloop_ok (fun t => some (g t)) h, List.filterMap_eq_map']
theorem wloop_post {c : Sg → R M} {f : Sg → RS} (I : Nat → Sg → Prop)
    (hs : ∀ n S, I n S → (c S).post (fun m S1 => (m = .val (.bl false) ∧ Q .nx S1) ∨ (m = .val (.bl true) ∧ (f S1).post (fun fl S' => match fl with | .nx => (∃ k, k < n ∧ I k S') | .cnt => (∃ k, k < n ∧ I k S') | .brk => Q .nx S' | .ret m => Q (.ret m) S') E)) E) :
    ∀ (n k : Nat) (S : Sg), n < k → I n S → (wloop c f k S).post Q E := by
  intro n
  induction n using Nat.strongRecOn with
  | _ n ih =>
    intro k S hk hI
    obtain ⟨k, rfl⟩ : ∃ j, k = j + 1 := ⟨k - 1, by omega⟩
    have z := hs n S hI
    unfold wloop
    revert z
    cases c S with
    | bad => exact fun z => z
    | exc => exact fun z => z
    | ok m S1 =>
      intro z
      rcases z with ⟨rfl, z⟩ | ⟨rfl, z⟩
      · exact z
      · revert z
        dsimp only
        cases f S1 with
        | bad => exact fun z => z
        | exc => exact fun z => z
        | ok fl S' => cases fl with
          | nx => exact fun ⟨j, hj, z⟩ => ih j hj k S' (by omega) z
          | cnt => exact fun ⟨j, hj, z⟩ => ih j hj k S' (by omega) z
          | brk => exact fun z => z
          | ret m => exact fun z => z
end
/-! ### calls -/
theorem call_eq {PG : Prog} {n f : Nat} {Fn : Fn} (h : PG.fn f = some Fn) (args : List D) (ob : List Ob) : (callN PG (n + 1)).1 f args ob = if args.length = Fn.np then
        outR (ess PG (callN PG n).1 (callN PG n).2 Fn.body ⟨args.map (fun d => some (.val d)) ++ List.replicate (Fn.ns - Fn.np) none, ob⟩) else .bad := by
  have key : ∀ r : RS, (match r with
        | .ok (.ret m) S => Rc.ok m S.ob
        | .ok .nx S => Rc.ok (M.val .non) S.ob
        | .exc c fs S => Rc.exc c fs S.ob
        | _ => Rc.bad) = outR r := fun r => by
    cases r with
    | ok fl S => cases fl <;> rfl
    | exc => rfl
    | bad => rfl
  rw [← key]
  show (match PG.fn f with | some Fn => _ | none => _) = _
  rw [h] <;> rfl
/-- levels of calls, seen from outside: what a def does, its calls one level down, the making of instances two -/
structure Lvl (PG : Prog) (C : Nat → CallFn) : Prop where
  eq : ∀ {n f : Nat} {Fn : Fn}, PG.fn f = some Fn → ∀ (args : List D) (ob : List Ob), C (n + 2) f args ob = if args.length = Fn.np then
        outR (ess PG (C (n + 1)) (C n) Fn.body ⟨args.map (fun d => some (.val d)) ++ List.replicate (Fn.ns - Fn.np) none, ob⟩) else .bad
theorem lvl_callN (PG : Prog) : Lvl PG (fun n => (callN PG n).1) := ⟨fun {n f Fn} h args ob => call_eq (n := n + 1) h args ob⟩
/-- from what holds behind the body to the answer -/
theorem outR_of {r : RS} {x : Rc} (h : r.post (fun fl S => outR (.ok fl S) = x) (fun c fs ob => .exc c fs ob = x)) : outR r = x := by
  cases r with
  | ok fl S => exact h
  | exc c fs S => exact h
  | bad => exact h.elim
def _root_.Tk.CSs.drop : Nat → CSs → CSs
  | 0, b => b
  | n + 1, .cons _ b => b.drop n
  | _ + 1, .nil => .nil
def _root_.Tk.CSs.take : Nat → CSs → CSs
  | 0, _ => .nil
  | n + 1, .cons s b => .cons s (b.take n)
  | _ + 1, .nil => .nil
theorem ess_split {P : Prog} {c1 c0 : CallFn} : ∀ (k : Nat) (b : CSs) (S : Sg), ess P c1 c0 b S = thenS (ess P c1 c0 (b.take k) S) fun S => ess P c1 c0 (b.drop k) S
  | 0, b, S => nrfl
  | k + 1, .nil, S => nrfl
  | k + 1, .cons s b, S => by
    show ess P c1 c0 (.cons s b) S = thenS (ess P c1 c0 (.cons s (b.take k)) S) fun S => ess P c1 c0 (b.drop k) S
    rw [ss_cons, ss_cons]
    cases es P c1 c0 s S with
    | ok fl S1 =>
      cases fl with
      | nx => simp only [thenS_nx]; exact ess_split k b S1
      | brk => rfl
      | cnt => rfl
      | ret m => rfl
    | exc => rfl
    | bad => rfl
theorem pre_len {τ : Type} {l pre r : List τ} {x : τ} (e : l = pre ++ x :: r) : pre.length < l.length := by
  have := congrArg List.length e; simp at this; omega
theorem outR_ex {r : RS} (P : Rc → Prop) (h : r.post (fun fl S => P (outR (.ok fl S))) (fun c fs ob => P (.exc c fs ob))) : P (outR r) := by
  cases r with
  | ok fl S => exact h
  | exc c fs S => exact h
  | bad => exact h.elim
end Tk.WP
/- Ops -/
set_option Elab.async false
set_option linter.all false
set_option maxRecDepth 100000
/-! Tk.Ops: operations on typed data, in equations. -/
namespace Tk.WP
open PySem PyProof.Rows
section
variable {P : Prog} {ob : List Ob} {a b : D} {x y s : List Nat} {i j : Int} {m k : M}
@[simp] theorem fz_val : (M.val a).fz = a := nrfl
@[simp] theorem fz_lst {ms : List M} : (M.lst ms).fz = .lst (M.fzs ms) := nrfl
@[simp] theorem fzs_nil : M.fzs [] = [] := nrfl
@[simp] theorem fzs_cons {ms : List M} : M.fzs (m :: ms) = m.fz :: M.fzs ms := nrfl
@[simp] theorem fzs_map {α : Type} {f : α → M} {l : List α} : M.fzs (l.map f) = l.map (fun x => (f x).fz) := by rw [M.fzs_eq, List.map_map]; rfl
@[simp] theorem only_val : M.only (.val a) = some (.val a) := nrfl
@[simp] theorem o_eq : doOp P ob .eq [m, k] = (eqD m.fz k.fz).bind vb := nrfl
@[simp] theorem o_ne : doOp P ob .ne [m, k] = (eqD m.fz k.fz).bind fun c => vb (!c) := nrfl
@[simp] theorem o_lt : doOp P ob .lt [m, k] = (doLt m.fz k.fz).bind vb := nrfl
@[simp] theorem o_gt : doOp P ob .gt [m, k] = (doLt k.fz m.fz).bind vb := nrfl
@[simp] theorem o_le : doOp P ob .le [m, k] = (doLt k.fz m.fz).bind fun c => vb (!c) := nrfl
@[simp] theorem o_ge : doOp P ob .ge [m, k] = (doLt m.fz k.fz).bind fun c => vb (!c) := nrfl
@[simp] theorem o_isin : doOp P ob .isin [m, k] = (doIn m k).bind vb := nrfl
@[simp] theorem o_notin : doOp P ob .notin [m, k] = (doIn m k).bind fun c => vb (!c) := nrfl
@[simp] theorem o_is : doOp P ob .is_ [m, k] = (doIs m k).bind vb := nrfl
@[simp] theorem o_isnot : doOp P ob .isnot [m, k] = (doIs m k).bind fun c => vb (!c) := nrfl
@[simp] theorem o_idx : doOp P ob .idx [m, k] = (m.at_ k.fz).bind M.only := nrfl
@[simp] theorem o_add : doOp P ob .add [m, k] = doAdd m k := nrfl
@[simp] theorem o_sub : doOp P ob .sub [m, k] = i2 (fun i j => vi (i - j)) m k := nrfl
@[simp] theorem o_mul : doOp P ob .mul [m, k] = i2 (fun i j => if smul i j then vi (i * j) else none) m k := nrfl
@[simp] theorem o_fdiv : doOp P ob .fdiv [m, k] = i2 (fun i j => if 0 < j ∧ j < 1073741824 then vi (i / j) else none) m k := nrfl
@[simp] theorem o_mod : doOp P ob .mod [m, k] = i2 (fun i j => if 0 < j then vi (i % j) else none) m k := nrfl
@[simp] theorem o_slcLH {n : M} : doOp P ob .slcLH [m, k, n] = (k.asInt).bind fun lo => (n.asInt).bind fun hi => m.slc (some lo) (some hi) := nrfl
@[simp] theorem o_slcL : doOp P ob .slcL [m, k] = (k.asInt).bind fun lo => m.slc (some lo) none := nrfl
@[simp] theorem o_slcH : doOp P ob .slcH [m, k] = (k.asInt).bind fun hi => m.slc none (some hi) := nrfl
@[simp] theorem o_neg : doOp P ob .neg [m] = (m.asInt).bind fun i => vi (-i) := nrfl
@[simp] theorem o_len : doOp P ob .len [m] = doLen m := nrfl
@[simp] theorem o_abs : doOp P ob .abs [m] = (m.asInt).bind fun i => vi (if i < 0 then -i else i) := nrfl
@[simp] theorem o_int : doOp P ob .int_ [m] = doInt m := nrfl
@[simp] theorem o_tuple : doOp P ob .tuple_ [m] = (m.dseq).map fun xs => .val (.tup xs) := nrfl
@[simp] theorem o_list : doOp P ob .list_ [m] = (m.dseq).map fun xs => .lst (xs.map .val) := nrfl
@[simp] theorem o_sorted : doOp P ob .sorted_ [m] = doSorted m := nrfl
@[simp] theorem o_index : doOp P ob .index_ [m, k] = doIndex m k := nrfl
@[simp] theorem o_find {n : M} : doOp P ob .find_ [m, k, n] = doFind m k n := nrfl
@[simp] theorem o_join : doOp P ob .join_ [m, k] = doJoin m k := nrfl
@[simp] theorem o_split : doOp P ob .split_ [m, k] = doSplit m k := nrfl
@[simp] theorem o_isi {ts : List (Sum String Nat)} : doOp P ob (.isi ts) [m] = (tyName P ob m).bind fun t => vb (ts.any (isTy P t)) := nrfl
@[simp] theorem vb_eq {c : Bool} : vb c = some (.val (.bl c)) := nrfl
@[simp] theorem vi_eq : vi i = some (.val (.int i)) := nrfl
@[simp] theorem eqD_str : eqD (.str x) (.str y) = some (x == y) := nrfl
@[simp] theorem eqD_int : eqD (.int i) (.int j) = some (i == j) := nrfl
@[simp] theorem doLt_int : doLt (.int i) (.int j) = some (decide (i < j)) := nrfl
@[simp] theorem doLt_str : doLt (.str x) (.str y) = some (ltS x y) := nrfl
@[simp] theorem asInt_int : (M.val (.int i)).asInt = some i := nrfl
@[simp] theorem asStr_str : (M.val (.str s)).asStr = some s := nrfl
@[simp] theorem len_str (h : s.length ≤ 16777216) : doLen (.val (.str s)) = some (.val (.int s.length)) := by
  have h : s.length ≤ line := h
  unfold doLen; simp [h]
@[simp] theorem len_tup {xs : List D} : doLen (.val (.tup xs)) = some (.val (.int xs.length)) := nrfl
@[simp] theorem len_lst {xs : List D} : doLen (.val (.lst xs)) = some (.val (.int xs.length)) := nrfl
@[simp] theorem len_mlst {xs : List M} : doLen (.lst xs) = some (.val (.int xs.length)) := by
  unfold doLen; simp only [M.asStr, M.seq, M.fzs_eq, List.length_map]; rfl
@[simp] theorem in_char {c : Nat} : doIn (.val (.str [c])) (.val (.str y)) = some (decide (c ∈ y)) := by
  show some (Txt.contains (mkS y) (mkS [c])) = _
  congr 1
  exact StrLaws.found_one (mkS y) c
@[simp] theorem items_str : (M.val (.str s)).items = some (s.map fun c => .str [c]) := nrfl
@[simp] theorem items_tup {xs : List D} : (M.val (.tup xs)).items = some xs := nrfl
@[simp] theorem items_lst {xs : List D} : (M.val (.lst xs)).items = some xs := nrfl
@[simp] theorem items_scr {xs : List D} : (M.val (.scr xs)).items = some xs := nrfl
@[simp] theorem items_mlst {xs : List M} : (M.lst xs).items = some (M.fzs xs) := nrfl
@[simp] theorem ty_str : tyName P ob (.val (.str s)) = some (.inl "str") := nrfl
@[simp] theorem ty_int : tyName P ob (.val (.int i)) = some (.inl "int") := nrfl
@[simp] theorem ty_bl {c : Bool} : tyName P ob (.val (.bl c)) = some (.inl "bool") := nrfl
@[simp] theorem ty_non : tyName P ob (.val .non) = some (.inl "NoneType") := nrfl
@[simp] theorem ty_tup {xs : List D} : tyName P ob (.val (.tup xs)) = some (.inl "tuple") := nrfl
@[simp] theorem ty_lst {xs : List D} : tyName P ob (.val (.lst xs)) = some (.inl "list") := nrfl
@[simp] theorem ty_mlst {xs : List M} : tyName P ob (.lst xs) = some (.inl "list") := nrfl
@[simp] theorem ty_dct {xs : List (D × D)} : tyName P ob (.val (.dct xs)) = some (.inl "dict") := nrfl
theorem at_tup {xs : List D} : (M.val (.tup xs)).at_ (.int i) = ((seqIx xs.length i).bind fun j => xs[j]?).map .val := nrfl
theorem at_lst {xs : List D} : (M.val (.lst xs)).at_ (.int i) = ((seqIx xs.length i).bind fun j => xs[j]?).map .val := nrfl
theorem at_mlst {ms : List M} : (M.lst ms).at_ (.int i) = (seqIx ms.length i).bind fun j => ms[j]? := nrfl
@[simp] theorem at_tup0 {x : D} {xs : List D} : (M.val (.tup (x :: xs))).at_ (.int 0) = some (.val x) := by simp [at_tup, seqIx]
@[simp] theorem at_str0 {x : Nat} {xs : List Nat} (h : xs.length + 1 ≤ 16777216) : (M.val (.str (x :: xs))).at_ (.int 0) = some (.val (.str [x])) := by
  show (if (x :: xs).length ≤ line then ((seqIx (x :: xs).length 0).bind fun j => (x :: xs)[j]?).map fun c => M.val (.str [c]) else none) = _
  rw [if_pos (show (x :: xs).length ≤ line from h)]; simp [seqIx]
theorem at_tup_k {xs : List D} {d : D} {n : Nat} (h : xs[n]? = some d) : (M.val (.tup xs)).at_ (.int (n : Int)) = some (.val d) := by
  obtain ⟨hl, rfl⟩ := List.getElem?_eq_some_iff.mp h
  rw [at_tup]
  unfold seqIx
  rw [if_pos (Int.natCast_nonneg n), if_pos (by omega)]
  simp [h]
theorem at_lst_k {xs : List D} {d : D} {n : Nat} (h : xs[n]? = some d) : (M.val (.lst xs)).at_ (.int (n : Int)) = some (.val d) := by
  obtain ⟨hl, rfl⟩ := List.getElem?_eq_some_iff.mp h
  rw [at_lst]
  unfold seqIx
  rw [if_pos (Int.natCast_nonneg n), if_pos (by omega)]
  simp [h]
theorem at_mlst_k {xs : List M} {d : M} {n : Nat} (h : xs[n]? = some d) : (M.lst xs).at_ (.int (n : Int)) = some d := by
  obtain ⟨hl, rfl⟩ := List.getElem?_eq_some_iff.mp h
  rw [at_mlst]
  unfold seqIx
  rw [if_pos (Int.natCast_nonneg n), if_pos (by omega)]
  simp [h]
theorem at_lit {xs : List D} {d : D} {n : Nat} (i : Int) (e : i = n) (h : xs[n]? = some d) : (M.val (.tup xs)).at_ (.int i) = some (.val d) := by subst e; exact at_tup_k h
@[simp] theorem at_tup1 {x y : D} {xs : List D} : (M.val (.tup (x :: y :: xs))).at_ (.int 1) = some (.val y) := at_lit 1 (n := 1) rfl rfl
@[simp] theorem at_tup2 {x y z : D} {xs : List D} : (M.val (.tup (x :: y :: z :: xs))).at_ (.int 2) = some (.val z) := at_lit 2 (n := 2) rfl rfl
@[simp] theorem at_tup3 {x y z u : D} {xs : List D} : (M.val (.tup (x :: y :: z :: u :: xs))).at_ (.int 3) = some (.val u) := at_lit 3 (n := 3) rfl rfl
@[simp] theorem at_tup4 {x y z u v : D} {xs : List D} : (M.val (.tup (x :: y :: z :: u :: v :: xs))).at_ (.int 4) = some (.val v) := at_lit 4 (n := 4) rfl rfl
@[simp] theorem at_tup5 {x y z u v w : D} {xs : List D} : (M.val (.tup (x :: y :: z :: u :: v :: w :: xs))).at_ (.int 5) = some (.val w) := at_lit 5 (n := 5) rfl rfl
@[simp] theorem at_dct {kvs : List (D × D)} {k : D} : (M.val (.dct kvs)).at_ k = if k.isKey then (getK k kvs).map .val else none := by
  cases k <;> rfl
@[simp] theorem at_mdct {kvs : List (D × M)} {k : D} : (M.dct kvs).at_ k = if k.isKey then getK k kvs else none := by
  cases k <;> rfl
@[simp] theorem isKey_str : (D.str s).isKey = true := nrfl
@[simp] theorem isKey_int : (D.int i).isKey = true := nrfl
@[simp] theorem eqK_str : (D.str x).eqK (.str y) = (x == y) := nrfl
@[simp] theorem eqK_int : (D.int i).eqK (.int j) = (i == j) := nrfl
@[simp] theorem getK_nil {α : Type} {k : D} : getK k ([] : List (D × α)) = none := nrfl
@[simp] theorem getK_cons {α : Type} {k j : D} {v : α} {r : List (D × α)} : getK k ((j, v) :: r) = if j.eqK k then some v else getK k r := nrfl
@[simp] theorem putK_nil {α : Type} {k : D} {v : α} : putK k v ([] : List (D × α)) = [(k, v)] := nrfl
@[simp] theorem putK_cons {α : Type} {k j : D} {v w : α} {r : List (D × α)} : putK k v ((j, w) :: r) = if j.eqK k then (j, v) :: r else (j, w) :: putK k v r := nrfl
@[simp] theorem getF_nil {f : Nat} : getF f [] = none := nrfl
@[simp] theorem getF_cons {f g : Nat} {r : List (Nat × M)} : getF f ((g, m) :: r) = if g = f then some m else getF f r := nrfl
@[simp] theorem putF_nil {f : Nat} : putF f m [] = [(f, m)] := nrfl
@[simp] theorem putF_cons {f g : Nat} {r : List (Nat × M)} : putF f m ((g, k) :: r) = if g = f then (g, m) :: r else (g, k) :: putF f m r := nrfl
@[simp] theorem fieldOf_obj {i f : Nat} : fieldOf ob (.val (.obj i)) f = (ob[i]?).bind fun o => getF f o.fs := nrfl
@[simp] theorem setField_obj {i f : Nat} : setField P ob (.val (.obj i)) f m = (ob[i]?).bind fun o => (P.cl o.cls).bind fun c => if c.fl.elem f && decide (o.fs.length < 1000) then some (ob.set i ⟨o.cls, putF f m o.fs⟩) else none := nrfl
@[simp] theorem methOf_obj {i f : Nat} : methOf P ob (.val (.obj i)) f = (ob[i]?).bind fun o => (P.cl o.cls).bind fun c => if (getF f o.fs).isSome then none else c.ms.lookup f := nrfl
@[simp] theorem in_mdct {kvs : List (D × M)} : doIn (.val (.str s)) (.dct kvs) = some (getK (.str s) kvs).isSome := nrfl
@[simp] theorem lookup_nil {β : Type} {m : Nat} : List.lookup m ([] : List (Nat × β)) = none := nrfl
@[simp] theorem lookup_ite {β : Type} {m k : Nat} {b : β} {l : List (Nat × β)} : List.lookup m ((k, b) :: l) = if m = k then some b else List.lookup m l := by
  rw [List.lookup_cons]
  by_cases h : m = k
  · subst h; simp
  · rw [if_neg h, beq_eq_false_iff_ne.mpr h]
theorem get_mid {α : Type} {l r : List α} {o : α} : (l ++ o :: r)[l.length]? = some o := by simp
theorem set_mid {α : Type} {l r : List α} {o o' : α} : (l ++ o :: r).set l.length o' = l ++ o' :: r := by simp
theorem rangeL_nat {n : Nat} (h : n ≤ 1000000000) : rangeL [.val (.int (n : Int))] = some ((List.range n).map fun k : Nat => D.int (k : Int)) := by
  have h1 : (-4611686018427387904 : Int) ≤ (n : Int) ∧ (n : Int) < 4611686018427387904 := by omega
  simp only [rangeL]
  rw [if_pos h1, Int.toNat_natCast]
theorem slc_tup_to {xs : List D} {n : Nat} (h : n ≤ xs.length) : (M.val (.tup xs)).slc none (some (n : Int)) = some (.val (.tup (xs.take n))) := by
  show some (M.val (.tup (cutL xs none (some (n : Int))))) = _
  have : cutIx xs.length xs.length (some (n : Int)) = n := by
    simp only [cutIx]
    rw [if_neg (by omega), Int.toNat_natCast]
    exact Nat.min_eq_left h
  unfold cutL
  rw [this]
  rfl
theorem slc_lst_to {xs : List D} {n : Nat} (h : n ≤ xs.length) : (M.val (.lst xs)).slc none (some (n : Int)) = some (.lst ((xs.take n).map .val)) := by
  show some (M.lst ((cutL xs none (some (n : Int))).map .val)) = _
  have : cutIx xs.length xs.length (some (n : Int)) = n := by
    simp only [cutIx]
    rw [if_neg (by omega), Int.toNat_natCast]
    exact Nat.min_eq_left h
  unfold cutL
  rw [this]
  rfl
theorem allVal_map {α : Type} {f : α → D} {l : List α} : allVal (l.map fun x => .val (f x)) = some (l.map f) := by
  induction l with
  | nil => rfl
  | cons x l ih => show (allVal (l.map fun x => .val (f x))).map (f x :: ·) = _; rw [ih]; rfl
theorem slc_mlst_to {α : Type} {f : α → D} {l : List α} {n : Nat} (h : n ≤ l.length) : (M.lst (l.map fun x => .val (f x))).slc none (some (n : Int)) = some (.lst ((l.take n).map fun x => .val (f x))) := by
  show (allVal _).map (fun xs => M.lst ((cutL xs none (some (n : Int))).map .val)) = _
  rw [allVal_map]
  have : cutIx (l.map f).length (l.map f).length (some (n : Int)) = n := by
    simp only [cutIx]
    rw [if_neg (by omega), Int.toNat_natCast, List.length_map]
    exact Nat.min_eq_left h
  show some (M.lst (((List.drop 0 (l.map f)).take (cutIx (l.map f).length (l.map f).length (some (n : Int)) - 0)).map .val)) = _
  rw [this]
  simp [Function.comp_def]
theorem at_mlst_map {α : Type} {f : α → M} {l : List α} {x : α} {n : Nat} (h : l[n]? = some x) : (M.lst (l.map f)).at_ (.int (n : Int)) = some (f x) := at_mlst_k (by rw [List.getElem?_map, h]; rfl)
theorem slc_lst_from {xs : List D} {n : Nat} (h : n ≤ xs.length) : (M.val (.lst xs)).slc (some (n : Int)) none = some (.lst ((xs.drop n).map .val)) := by
  show some (M.lst (((xs.drop (cutIx xs.length 0 (some (n : Int)))).take (xs.length - cutIx xs.length 0 (some (n : Int)))).map .val)) = _
  have : cutIx xs.length 0 (some (n : Int)) = n := by
    simp only [cutIx]
    rw [if_neg (by omega), Int.toNat_natCast]
    exact Nat.min_eq_left h
  rw [this, List.take_of_length_le (by rw [List.length_drop]; exact Nat.le_refl _)]
theorem mul_ok {i j : Int} (h : smul i j = true) : i2 (fun i j => if smul i j then vi (i * j) else none) (.val (.int i)) (.val (.int j)) = some (.val (.int (i * j))) := by
  show (if smul i j = true then vi (i * j) else none) = _
  rw [if_pos h]; rfl
@[simp] theorem i2_int {f : Int → Int → Option M} : i2 f (.val (.int i)) (.val (.int j)) = f i j := nrfl
@[simp] theorem doInt_int : doInt (.val (.int i)) = some (.val (.int i)) := nrfl
@[simp] theorem doInt_bl {c : Bool} : doInt (.val (.bl c)) = some (.val (.int (if c then 1 else 0))) := nrfl
@[simp] theorem add_int : doAdd (.val (.int i)) (.val (.int j)) = some (.val (.int (i + j))) := nrfl
theorem add_str (h : x.length + y.length ≤ 16777216) : doAdd (.val (.str x)) (.val (.str y)) = some (.val (.str (x ++ y))) := by
  show (if x.length + y.length ≤ line then some (M.val (.str (x ++ y))) else none) = _
  rw [if_pos (show x.length + y.length ≤ line from h)]
theorem smul_l (h1 : -18446744073709551616 < i) (h2 : i < 18446744073709551616) : smul i j = true := by
  unfold smul; rw [Bool.or_eq_true]; left; exact decide_eq_true ⟨h1, h2⟩
theorem smul_r (h1 : -18446744073709551616 < j) (h2 : j < 18446744073709551616) : smul i j = true := by
  unfold smul; rw [Bool.or_eq_true]; right; exact decide_eq_true ⟨h1, h2⟩
theorem flat_strs (l : List (List Nat)) : (l.map D.str).all D.flat = true := by
  rw [List.all_eq_true]; intro d hd; obtain ⟨s, _, rfl⟩ := List.mem_map.mp hd; rfl
theorem any_strs (l : List (List Nat)) : (l.map D.str).any (fun y => y.eqF (.str s)) = decide (s ∈ l) := by
  rw [List.any_map]
  induction l with
  | nil => rfl
  | cons x l ih =>
    rw [List.any_cons, ih]
    have : ((fun y => y.eqF (D.str s)) ∘ D.str) x = decide (s = x) := by
      show (x == s) = _
      rw [Bool.eq_iff_iff, beq_iff_eq, decide_eq_true_iff]
      exact eq_comm
    rw [this, Bool.eq_iff_iff]
    simp only [Bool.or_eq_true, decide_eq_true_iff, List.mem_cons]
@[simp] theorem in_tup_strs {l : List (List Nat)} : doIn (.val (.str s)) (.val (.tup (l.map .str))) = some (decide (s ∈ l)) := by
  show (if D.flat (.str s) && (l.map D.str).all D.flat then some _ else none) = _
  rw [flat_strs, any_strs]; rfl
@[simp] theorem in_lst_strs {l : List (List Nat)} : doIn (.val (.str s)) (.val (.lst (l.map .str))) = some (decide (s ∈ l)) := by
  show (if D.flat (.str s) && (l.map D.str).all D.flat then some _ else none) = _
  rw [flat_strs, any_strs]; rfl
@[simp] theorem in_mlst_strs {l : List (List Nat)} : doIn (.val (.str s)) (.lst (l.map fun x => .val (.str x))) = some (decide (s ∈ l)) := by
  show (if D.flat (.str s) && (M.fzs _).all D.flat then some _ else none) = _
  rw [fzs_map]
  have : (l.map fun x => (M.val (D.str x)).fz) = l.map D.str := rfl
  rw [this, flat_strs, any_strs]; rfl
@[simp] theorem in_mlst_nil : doIn (.val (.str s)) (.lst []) = some false := nrfl
@[simp] theorem dseq_tup {xs : List D} : (M.val (.tup xs)).dseq = some xs := nrfl
@[simp] theorem dseq_lst {xs : List D} : (M.val (.lst xs)).dseq = some xs := nrfl
theorem allVal_app : ∀ {a b : List M} {x y : List D}, allVal a = some x → allVal b = some y → allVal (a ++ b) = some (x ++ y)
  | [], b, x, y, h1, h2 => by cases h1; exact h2
  | m :: a, b, x, y, h1, h2 => by
    cases m with
    | val d =>
      show (allVal (a ++ b)).map (d :: ·) = _
      have h1 : (allVal a).map (d :: ·) = some x := h1
      cases q : allVal a with
      | none => rw [q] at h1; cases h1
      | some z => rw [q] at h1; cases h1; rw [allVal_app q h2]; rfl
    | lst _ => cases h1
    | dct _ => cases h1
@[simp] theorem dseq_app {α β : Type} {f : α → D} {g : β → D} {l : List α} {r : List β} : (M.lst ((l.map fun x => .val (f x)) ++ r.map fun x => .val (g x))).dseq = some (l.map f ++ r.map g) := allVal_app allVal_map allVal_map
@[simp] theorem dseq_mlst {α : Type} {f : α → D} {l : List α} : (M.lst (l.map fun x => .val (f x))).dseq = some (l.map f) := allVal_map
@[simp] theorem comp_val {α : Type} {f : α → D} : (M.val ∘ f) = fun x => .val (f x) := nrfl
@[simp] theorem line_eq : line = 16777216 := nrfl
@[simp] theorem setSl_nil {i : Nat} : setSl [] i m = [] := nrfl
@[simp] theorem setSl_0 {o : Option M} {l : List (Option M)} : setSl (o :: l) 0 m = some m :: l := nrfl
@[simp] theorem setSl_s {o : Option M} {l : List (Option M)} {i : Nat} : setSl (o :: l) (i + 1) m = o :: setSl l i m := nrfl
@[simp] theorem bindT_one {sl : List (Option M)} {i : Nat} : bindT sl [i] true m = some (setSl sl i m) := nrfl
@[simp] theorem bindT_tup {sl : List (Option M)} {tg : List Nat} {xs : List D} : bindT sl tg false (.val (.tup xs)) = if xs.length = tg.length then some (bindL sl tg xs) else none := nrfl
@[simp] theorem bindL_nil {sl : List (Option M)} {xs : List D} : bindL sl [] xs = sl := by cases xs <;> rfl
@[simp] theorem bindL_cons {sl : List (Option M)} {i : Nat} {is : List Nat} {xs : List D} : bindL sl (i :: is) (a :: xs) = bindL (setSl sl i (.val a)) is xs := nrfl
@[simp] theorem wipe_nil {sl : List (Option M)} : wipeSl sl [] = sl := nrfl
@[simp] theorem wipe_cons {sl : List (Option M)} {i : Nat} {is : List Nat} : wipeSl sl (i :: is) = (wipeSl sl is).set i none := nrfl
end
end Tk.WP
/- Eq -/
set_option Elab.async false
set_option linter.all false
set_option maxRecDepth 100000
/-! Tk.Eq: the equality of plain data. -/
namespace Tk.WP
open PySem PyProof.Rows
mutual
def eqP : D → D → Bool
  | .non, .non => true
  | .bl a, .bl b => a == b
  | .bl a, .int j => (if a then 1 else 0) == j
  | .int i, .bl b => i == (if b then 1 else 0)
  | .int i, .int j => i == j
  | .str x, .str y => x == y
  | .tup xs, .tup ys => eqPs xs ys
  | .lst xs, .lst ys => eqPs xs ys
  | _, _ => false
def eqPs : List D → List D → Bool
  | [], [] => true
  | x :: xs, y :: ys => eqP x y && eqPs xs ys
  | [], _ :: _ => false
  | _ :: _, [] => false
end
def strB (s : List Nat) : Bool := PyData.strOk (mkS s)
mutual
/-- plain data, nested at most n deep -/
def plnB : Nat → D → Bool
  | _, .non | _, .bl _ | _, .int _ => true
  | _, .str s => strB s
  | n + 1, .tup xs => plnBs n xs
  | n + 1, .lst xs => plnBs n xs
  | _, _ => false
def plnBs : Nat → List D → Bool
  | _, [] => true
  | n, x :: xs => plnB n x && plnBs n xs
end
mutual
theorem pln_py : ∀ {n : Nat} {d : D}, plnB n d = true → ∃ a, d.py = some a ∧ a.canLay0 = true ∧ a.depth ≤ n
  | _, .non, _ => ⟨_, rfl, rfl, Nat.zero_le _⟩
  | _, .bl _, _ => ⟨_, rfl, rfl, Nat.zero_le _⟩
  | _, .int _, _ => ⟨_, rfl, rfl, Nat.zero_le _⟩
  | _, .str s, h => ⟨_, rfl, by simpa [plnB, strB, mkS, PyData.canLay0] using h, Nat.zero_le _⟩
  | n + 1, .tup xs, h => by
    obtain ⟨as, h1, h2, h3⟩ := plns_py (n := n) (ds := xs) (by simpa [plnB] using h)
    exact ⟨.tuple as, by simp [D.py, h1], by simpa [PyData.canLay0] using h2, by simp [PyData.depth]; omega⟩
  | n + 1, .lst xs, h => by
    obtain ⟨as, h1, h2, h3⟩ := plns_py (n := n) (ds := xs) (by simpa [plnB] using h)
    exact ⟨.list as, by simp [D.py, h1], by simpa [PyData.canLay0] using h2, by simp [PyData.depth]; omega⟩
  | 0, .tup _, h => by simp [plnB] at h
  | 0, .lst _, h => by simp [plnB] at h
  | n, .dct _, h => by cases n <;> simp [plnB] at h
  | n, .obj _, h => by cases n <;> simp [plnB] at h
  | n, .scr _, h => by cases n <;> simp [plnB] at h
theorem plns_py : ∀ {n : Nat} {ds : List D}, plnBs n ds = true → ∃ as, D.pys ds = some as ∧ PyData.canLayAll0 as = true ∧ PyData.depthAll as ≤ n
  | _, [], _ => ⟨[], rfl, rfl, Nat.zero_le _⟩
  | n, d :: ds, h => by
    simp only [plnBs, Bool.and_eq_true] at h
    obtain ⟨a, h1, h2, h3⟩ := pln_py h.1
    obtain ⟨as, g1, g2, g3⟩ := plns_py h.2
    exact ⟨a :: as, by simp [D.pys, h1, g1], by simp [PyData.canLayAll0, h2, g2], by simp [PyData.depthAll]; omega⟩
end
mutual
theorem eqv_py : ∀ {a b : D} {x y : PyData}, a.py = some x → b.py = some y → PyData.eqv x y = eqP a b := by
  intro a b x y h1 h2
  cases a with
  | non => cases h1; cases b <;> simp [D.py] at h2 <;> (first | (subst h2; simp [PyData.eqv, eqP]) | (obtain ⟨_, _, rfl⟩ := h2; simp [PyData.eqv, eqP]))
  | bl c => cases h1; cases b <;> simp [D.py] at h2 <;> (first | (subst h2; simp [PyData.eqv, eqP]) | (obtain ⟨_, _, rfl⟩ := h2; simp [PyData.eqv, eqP]))
  | int c => cases h1; cases b <;> simp [D.py] at h2 <;> (first | (subst h2; simp [PyData.eqv, eqP]) | (obtain ⟨_, _, rfl⟩ := h2; simp [PyData.eqv, eqP]))
  | str s =>
    cases h1
    cases b <;> simp [D.py] at h2 <;> (first | (subst h2; simp [PyData.eqv, eqP]) | (obtain ⟨_, _, rfl⟩ := h2; simp [PyData.eqv, eqP]))
    rename_i t
    rw [Bool.eq_iff_iff]
    simp
  | tup xs =>
    simp [D.py] at h1
    obtain ⟨as, h1, rfl⟩ := h1
    cases b <;> simp [D.py] at h2 <;> (first | (subst h2; simp [PyData.eqv, eqP]; done) | (obtain ⟨bs, h2, rfl⟩ := h2; simp [PyData.eqv, eqP]))
    exact eqvs_py h1 h2
  | lst xs =>
    simp [D.py] at h1
    obtain ⟨as, h1, rfl⟩ := h1
    cases b <;> simp [D.py] at h2 <;> (first | (subst h2; simp [PyData.eqv, eqP]; done) | (obtain ⟨bs, h2, rfl⟩ := h2; simp [PyData.eqv, eqP]))
    exact eqvs_py h1 h2
  | dct _ => simp [D.py] at h1
  | obj _ => simp [D.py] at h1
  | scr _ => simp [D.py] at h1
theorem eqvs_py : ∀ {xs ys : List D} {as bs : List PyData}, D.pys xs = some as → D.pys ys = some bs → PyData.eqvAll as bs = eqPs xs ys := by
  intro xs ys as bs h1 h2
  cases xs with
  | nil =>
    cases h1
    cases ys with
    | nil => cases h2; rfl
    | cons y ys =>
      simp only [D.pys] at h2
      split at h2 <;> cases h2
      simp [PyData.eqvAll, eqPs]
  | cons x xs =>
    simp only [D.pys] at h1
    split at h1 <;> cases h1
    rename_i a as e1 e2
    cases ys with
    | nil => cases h2; simp [PyData.eqvAll, eqPs]
    | cons y ys =>
      simp only [D.pys] at h2
      split at h2 <;> cases h2
      rename_i b bs e3 e4
      simp only [PyData.eqvAll, eqPs, eqv_py e1 e3, eqvs_py e2 e4]
end
theorem eqD_pln {a b : D} (h1 : plnB 64 a = true) (h2 : plnB 64 b = true) : eqD a b = some (eqP a b) := by
  obtain ⟨x, e1, c1, d1⟩ := pln_py h1
  obtain ⟨y, e2, c2, d2⟩ := pln_py h2
  have key : (match a.py, b.py with
    | some a, some b => if SeqAt.shaped a && SeqAt.shaped b then some (PyData.eqv a b) else none
    | _, _ => none) = some (eqP a b) := by
    rw [e1, e2]
    simp [SeqAt.shaped, c1, c2, d1, d2, eqv_py e1 e2]
  unfold eqD
  split <;> first | rfl | exact key
theorem strB_all {s : List Nat} : strB s = s.all (· < 0x110000) := by
  unfold strB PyData.strOk mkS
  simp
theorem eqPs_strs : ∀ {l m : List (List Nat)}, eqPs (l.map .str) (m.map .str) = (l == m)
  | [], [] => rfl
  | [], _ :: _ => rfl
  | _ :: _, [] => rfl
  | x :: l, y :: m => by
    simp only [List.map_cons, eqPs, eqP, eqPs_strs]
    rfl
theorem plnBs_strs {n : Nat} : ∀ {l : List (List Nat)}, (∀ s ∈ l, strB s = true) → plnBs n (l.map .str) = true
  | [], _ => rfl
  | x :: l, h => by
    simp only [List.map_cons, plnBs, Bool.and_eq_true]
    refine ⟨?_, plnBs_strs fun s hs => h s (List.mem_cons_of_mem _ hs)⟩
    have := h x List.mem_cons_self
    cases n <;> simpa [plnB] using this
theorem eqD_strs {l m : List (List Nat)} (h1 : ∀ s ∈ l, strB s = true) (h2 : ∀ s ∈ m, strB s = true) : eqD (.tup (l.map .str)) (.tup (m.map .str)) = some (l == m) := by
  rw [eqD_pln (by simp [plnB, plnBs_strs h1]) (by simp [plnB, plnBs_strs h2])]
  simp [eqP, eqPs_strs]
end Tk.WP
/- Mod -/
set_option Elab.async false
set_option linter.all false
set_option maxRecDepth 100000
/-! Tk.Md: houses as typed data. -/
namespace Tk.Md
open Tk Tk.WP
abbrev S := List Nat
inductive Nd where
  | say (n t x : S) | go (n x : S) | set (n s c x : S) | test (n s c y z : S) | ask (n s h m : S) (fx : List S)
  | pick (n : S) (arms : List (S × S)) | hand (n c : S) (arms : List (S × S)) | back (n w : S) | fin (n o : S)
deriving DecidableEq
def eArm (a : S × S) : D := .tup [.str a.1, .str a.2]
def eWs (l : List S) : D := .tup (l.map .str)
def eArms (l : List (S × S)) : D := .tup (l.map eArm)
def Nd.enc : Nd → D
  | .say n t x => .tup [.str [115, 97, 121], .str n, .str t, .str x]
  | .go n x => .tup [.str [103, 111], .str n, .str x]
  | .set n s c x => .tup [.str [115, 101, 116], .str n, .str s, .str c, .str x]
  | .test n s c y z => .tup [.str [116, 101, 115, 116], .str n, .str s, .str c, .str y, .str z]
  | .ask n s h m fx => .tup [.str [97, 115, 107], .str n, .str s, .str h, .str m, eWs fx]
  | .pick n arms => .tup [.str [112, 105, 99, 107], .str n, eArms arms]
  | .hand n c arms => .tup [.str [104, 97, 110, 100], .str n, .str c, eArms arms]
  | .back n w => .tup [.str [98, 97, 99, 107], .str n, .str w]
  | .fin n o => .tup [.str [101, 110, 100], .str n, .str o]
def Nd.name : Nd → S
  | .say n _ _ | .go n _ | .set n _ _ _ | .test n _ _ _ _ | .ask n _ _ _ _ | .pick n _ | .hand n _ _ | .back n _ | .fin n _ => n
abbrev Slot := S × List S
abbrev Chart := S × List Nd
def eSlot (s : Slot) : D := .tup [.str s.1, eWs s.2]
def eSlots (l : List Slot) : D := .tup (l.map eSlot)
def eChart (c : Chart) : D := .tup [.str c.1, .tup (c.2.map Nd.enc)]
def eCharts (l : List Chart) : D := .tup (l.map eChart)
def letters : List Nat := [97, 98, 99, 100, 101, 102, 103, 104, 105, 106, 107, 108, 109, 110, 111, 112, 113, 114, 115, 116, 117, 118, 119, 120, 121, 122]
def digits : List Nat := [48, 49, 50, 51, 52, 53, 54, 55, 56, 57]
def wordCh (c : Nat) : Bool := decide (c ∈ letters) || decide (c ∈ digits)
def isWord : S → Bool
  | [] => false
  | c :: r => decide (r.length < 12) && decide (c ∈ letters) && (c :: r).all wordCh
theorem isWord_len {s : S} (h : isWord s = true) : 1 ≤ s.length ∧ s.length ≤ 12 := by
  cases s with
  | nil => cases h
  | cons c r =>
    simp only [isWord, Bool.and_eq_true, decide_eq_true_eq] at h
    simp only [List.length_cons]
    omega
theorem isWord_strB {s : S} (h : isWord s = true) : strB s = true := by
  cases s with
  | nil => cases h
  | cons c r =>
    simp only [isWord, Bool.and_eq_true, List.all_eq_true] at h
    rw [strB_all, List.all_eq_true]
    intro x hx
    have := h.2 x hx
    simp only [wordCh, letters, digits, Bool.or_eq_true, decide_eq_true_eq] at this
    simp at this ⊢
    omega
theorem isWord_ne {s : S} (h : isWord s = true) : s ≠ [] := by
  intro e; subst e; cases h
/-- the words of the nodes of the kind back, each once, as they come -/
def addS (w : S) : List S → List S
  | [] => [w]
  | x :: r => if x = w then x :: r else x :: addS w r
def backKeys : List S → List Nd → List S
  | ks, [] => ks
  | ks, .back _ w :: r => backKeys (addS w ks) r
  | ks, .say _ _ _ :: r | ks, .go _ _ :: r | ks, .set _ _ _ _ :: r | ks, .test _ _ _ _ _ :: r | ks, .ask _ _ _ _ _ :: r | ks, .pick _ _ :: r | ks, .hand _ _ _ :: r | ks, .fin _ _ :: r => backKeys ks r
def backsOf (nodes : List Nd) : List S := sortS (backKeys [] nodes)
def firstName (l : List Nd) : S := (l.map Nd.name).headD []
theorem backKeys_none : ∀ {l : List Nd} {ks : List S}, (∀ d ∈ l, ∀ n w, d ≠ .back n w) → backKeys ks l = ks
  | [], _, _ => rfl
  | d :: l, ks, h => by
    have h1 := backKeys_none (l := l) (ks := ks) fun d hd => h d (List.mem_cons_of_mem _ hd)
    have h2 := h d List.mem_cons_self
    cases d <;> first | exact h1 | exact absurd rfl (h2 _ _)
end Tk.Md
/- Gen -/
set_option Elab.async false
set_option linter.all false
set_option maxRecDepth 100000
/-! Tk.Gen: the drawn houses, typed. -/
namespace Tk.Md
open Tk Tk.WP
/-- as getD, but left alone by simp -/
def _root_.List.nth {α : Type} (l : List α) (k : Nat) (z : α) : α := l.getD k z
def dr (ds : List Nat) (k : Nat) : Nat := ds.nth k 0
def eDr (ds : List Nat) : D := .lst (ds.map fun r : Nat => .int (r : Int))
theorem lst_at {xs : List D} {d : D} (i : Int) (k : Nat) (e : i = k) (h : xs[k]? = some d) : (M.val (.lst xs)).at_ (.int i) = some (.val d) := by
  subst e; exact at_lst_k h
theorem tup_at {xs : List D} {d : D} (i : Int) (k : Nat) (e : i = k) (h : xs[k]? = some d) : (M.val (.tup xs)).at_ (.int i) = some (.val d) := by
  subst e; exact at_tup_k h
theorem getD_some {α : Type} {l : List α} {k : Nat} {z : α} (h : k < l.length) : l[k]? = some (l.nth k z) := by
  unfold List.nth
  rw [List.getD_eq_getElem?_getD, List.getElem?_eq_getElem h]; rfl
theorem dr_at {ds : List Nat} (i : Int) (k : Nat) (e : i = k) (h : k < ds.length) : (M.val (eDr ds)).at_ (.int i) = some (.val (.int (dr ds k : Int))) :=
  lst_at i k e (by rw [List.getElem?_map, getD_some (z := 0) h]; rfl)
theorem nth_mem {α : Type} {l : List α} {k : Nat} {z : α} (h : k < l.length) : l.nth k z ∈ l := List.mem_of_getElem? (getD_some h)
/-- a written list, looked up -/
theorem map_at {α : Type} {f : α → D} {l : List α} {z : α} (i : Int) (k : Nat) (e : i = k) (h : k < l.length) : (M.val (.lst (l.map f))).at_ (.int i) = some (.val (f (l.nth k z))) :=
  lst_at i k e (by rw [List.getElem?_map, getD_some (z := z) h]; rfl)
theorem mapt_at {α : Type} {f : α → D} {l : List α} {z : α} (i : Int) (k : Nat) (e : i = k) (h : k < l.length) : (M.val (.tup (l.map f))).at_ (.int i) = some (.val (f (l.nth k z))) :=
  tup_at i k e (by rw [List.getElem?_map, getD_some (z := z) h]; rfl)
def eNs (l : List Nat) : D := .lst (l.map fun r : Nat => .int (r : Int))
theorem ns_at {l : List Nat} (i : Int) (k : Nat) (e : i = k) (h : k < l.length) : (M.val (eNs l)).at_ (.int i) = some (.val (.int (l.nth k 0 : Int))) := map_at (z := 0) i k e h
@[simp] theorem ns_len {l : List Nat} : doLen (.val (eNs l)) = some (.val (.int l.length)) := by simp [eNs]
def eStrs (l : List S) : D := .lst (l.map .str)
theorem strs_at {l : List S} (i : Int) (k : Nat) (e : i = k) (h : k < l.length) : (M.val (eStrs l)).at_ (.int i) = some (.val (.str (l.nth k []))) := map_at (z := []) i k e h
@[simp] theorem strs_len {l : List S} : doLen (.val (eStrs l)) = some (.val (.int l.length)) := by simp [eStrs]
def shapes : List (List Nat) := [[], [1], [2], [3], [4], [1, 1], [1, 2], [2, 1]]
def slotNames : List (List S) := [[[116, 111, 119, 110], [100]], [[100], [116, 111, 119, 110]]]
def slotWords : List S := [[111, 115, 108, 111], [114, 111, 109, 101], [120], [108, 105, 109, 97]]
def genShape (ds : List Nat) : List Nat := shapes.nth (dr ds 1 % 8) []
def genSlot (ds : List Nat) (i : Nat) : Slot := ((slotNames.nth (dr ds 2 % 2) []).nth i [], (List.range ((genShape ds).nth i 0)).map fun k => slotWords.nth ((dr ds 3 + k) % 4) [])
def genSlots (ds : List Nat) : List Slot := (List.range (genShape ds).length).map (genSlot ds)
def nodeNames : List S := [[97], [122, 101, 116, 97], [98, 50], [110], [109, 52], [104, 101, 108, 112], [107, 57, 120], [116, 111, 119, 110], [113]]
def genNames (shift count : Nat) : List S := (List.range count).map fun k => nodeNames.nth ((shift + k) % 9) []
def chartNames : List (List S) := [[[109, 97, 105, 110], [100, 101, 115, 107], [99]], [[99], [109, 97, 105, 110], [100, 101, 115, 107]], [[100, 101, 115, 107], [99], [109, 97, 105, 110]]]
def backWords : List (List S) := [[], [[111, 107]], [[110, 111], [111, 107]]]
structure Base where
  slots : List Slot
  charts : List S
  names : List (List S)
  backs : List (List S)
  counts : List Nat
  mode : Nat
def genMany (ds : List Nat) : Nat := 1 + dr ds 4 % 3
def genBack (ds : List Nat) (j : Nat) : List S := if 0 < j then backWords.nth (dr ds (5 + j) % 3) [] else []
def genExtra (ds : List Nat) (j : Nat) : Nat := if 0 < j then (genBack ds j).length else if 0 < dr ds 11 % 3 then 1 else 0
def genCount (ds : List Nat) (j : Nat) : Nat := 1 + dr ds (8 + j) % 4
def genName (ds : List Nat) (j : Nat) : List S := genNames (dr ds (8 + j) / 4) (genCount ds j + genExtra ds j)
def genBase (ds : List Nat) (mode : Nat) : Base := ⟨genSlots ds, (chartNames.nth (dr ds 5 % 3) []).take (genMany ds), (List.range (genMany ds)).map (genName ds), (List.range (genMany ds)).map (genBack ds), (List.range (genMany ds)).map (genCount ds), mode⟩
def eBase (b : Base) : D := .tup [eSlots b.slots, eStrs b.charts, .lst (b.names.map eStrs), .lst (b.backs.map eStrs), eNs b.counts, .int (b.mode : Int)]
def kindL : List S := [[115, 97, 121], [103, 111], [115, 101, 116], [116, 101, 115, 116], [97, 115, 107], [97, 115, 107], [112, 105, 99, 107], [112, 105, 99, 107], [104, 97, 110, 100], [104, 97, 110, 100], [101, 110, 100], [97, 115, 107]]
def genKind0 (ds : List Nat) (at_ : Nat) (b : Base) : S :=
  let k := kindL.nth (dr ds at_ % 12) []
  if b.slots.length = 0 then (if k = [115, 101, 116] then [103, 111] else if k = [116, 101, 115, 116] then [115, 97, 121] else if k = [97, 115, 107] then [112, 105, 99, 107] else k) else k
def genKind1 (ds : List Nat) (at_ : Nat) (b : Base) (j k : Nat) : S :=
  if (b.mode = 1 ∨ b.mode = 2) ∧ k = 1 ∧ k + 1 < (b.names.nth j []).length ∧ j + 1 < b.charts.length ∧ 0 < dr ds at_ % 3 then [104, 97, 110, 100]
  else if (b.mode = 1 ∨ b.mode = 2) ∧ genKind0 ds at_ b = [104, 97, 110, 100] then [112, 105, 99, 107]
  else genKind0 ds at_ b
def genKind (ds : List Nat) (at_ : Nat) (b : Base) (j k : Nat) : S :=
  if b.mode = 2 ∧ k + 1 = (b.names.nth j []).length ∧ ¬ (genKind1 ds at_ b j k = [97, 115, 107] ∨ genKind1 ds at_ b j k = [112, 105, 99, 107]) then [101, 110, 100] else genKind1 ds at_ b j k
def fwdKind (kind : S) : Bool := decide (kind ∈ [[115, 97, 121], [103, 111], [115, 101, 116], [116, 101, 115, 116], [104, 97, 110, 100]])
def genTarget (ds : List Nat) (at_ : Nat) (b : Base) (j k : Nat) (kind : S) : S :=
  let ns := b.names.nth j []
  if b.mode = 2 ∧ fwdKind kind = true then ns.nth (k + 1 + dr ds at_ % (ns.length - k - 1)) [] else ns.nth (dr ds at_ % ns.length) []
def plainTexts : List S := [[72, 105, 46], [65, 32, 98], [78, 111, 119, 32, 49, 32, 43, 32, 49, 33]]
def genSaid (ds : List Nat) (at_ : Nat) (sl : List Slot) : S :=
  if sl.length = 0 then plainTexts.nth (dr ds at_ % 3) []
  else
    let s := (sl.nth (dr ds at_ % sl.length) ([], [])).1
    let s0 := (sl.nth 0 ([], [])).1
    [[72, 105, 46], [83, 97, 121, 32, 60] ++ s ++ [62, 44, 32, 112, 108, 101, 97, 115, 101], [60] ++ s ++ [62, 32, 32, 111, 114, 32, 60] ++ s0 ++ [62, 63]].nth (dr ds at_ / 2 % 3) []
def genArms (ds : List Nat) (at_ : Nat) (b : Base) (j k : Nat) (kind : S) (ws : List S) : List (S × S) := (List.range ws.length).map fun i => (ws.nth i [], genTarget ds (at_ + 1 + i) b j k kind)
def pickWords : List S := [[121, 101, 115], [110, 111], [98]]
def endWords : List S := [[100, 111, 110, 101], [108, 101, 102, 116], [111, 107]]
def genPick (ds : List Nat) (at_ : Nat) : List S := (List.range (1 + dr ds (at_ + 5) % 3)).map fun i => pickWords.nth ((dr ds (at_ + 4) + i) % 3) []
def genCallee (ds : List Nat) (at_ : Nat) (b : Base) (j : Nat) : Nat := if b.mode = 1 ∨ b.mode = 2 then j + 1 else dr ds (at_ + 3) % b.charts.length
def genNode (ds : List Nat) (at_ : Nat) (b : Base) (j k : Nat) : Nd :=
  let name := (b.names.nth j []).nth k []
  let kind := genKind ds at_ b j k
  let one := genTarget ds (at_ + 1) b j k kind
  let two := genTarget ds (at_ + 2) b j k kind
  if kind = [115, 97, 121] then .say name (genSaid ds (at_ + 3) b.slots) one
  else if kind = [103, 111] then .go name one
  else if kind = [101, 110, 100] then .fin name (endWords.nth (dr ds (at_ + 1) % 3) [])
  else if kind = [112, 105, 99, 107] then .pick name (genArms ds at_ b j k kind (genPick ds at_))
  else if kind = [104, 97, 110, 100] then .hand name (b.charts.nth (genCallee ds at_ b j) []) (genArms ds at_ b j k kind (b.backs.nth (genCallee ds at_ b j) []))
  else
    let slot := b.slots.nth (dr ds (at_ + 3) % b.slots.length) ([], [])
    let content := ([] :: slot.2).nth (dr ds (at_ + 4) % (slot.2.length + 1)) []
    if kind = [115, 101, 116] then .set name slot.1 content one
    else if kind = [116, 101, 115, 116] then .test name slot.1 content one two
    else .ask name slot.1 one two ([[], [slot.1], b.slots.map (·.1)].nth (dr ds (at_ + 5) % 3) [])
def genRest (ds : List Nat) (b : Base) (j i : Nat) : Nd :=
  let name := ((b.names.nth j []).drop (b.counts.nth j 0)).nth i []
  if j = 0 then .fin name (endWords.nth (dr ds 11 / 3 % 3) []) else .back name ((b.backs.nth j []).nth i [])
def genChart (ds : List Nat) (b : Base) (j : Nat) : Chart :=
  (b.charts.nth j [], (List.range (b.counts.nth j 0)).map (fun k => genNode ds (12 + 24 * j + 6 * k) b j k) ++ (List.range ((b.names.nth j []).length - b.counts.nth j 0)).map (genRest ds b j))
def genCharts (ds : List Nat) (mode : Nat) : List Chart := (List.range (genBase ds mode).charts.length).map (genChart ds (genBase ds mode))
end Tk.Md
/- K61S -/
set_option Elab.async false
set_option linter.all false
set_option maxRecDepth 100000
set_option maxHeartbeats 0
namespace Tk.K61
open PySem Tk.WP
@[simp] theorem gl_MAX_SLOTS : PG.gl 0 = some v_MAX_SLOTS := nrfl
@[simp] theorem gl_MAX_VALUES : PG.gl 1 = some v_MAX_VALUES := nrfl
@[simp] theorem gl_MAX_CHARTS : PG.gl 2 = some v_MAX_CHARTS := nrfl
@[simp] theorem gl_MAX_NODES : PG.gl 3 = some v_MAX_NODES := nrfl
@[simp] theorem gl_MAX_ARMS : PG.gl 4 = some v_MAX_ARMS := nrfl
@[simp] theorem gl_LETTERS : PG.gl 5 = some v_LETTERS := nrfl
@[simp] theorem gl_DIGITS : PG.gl 6 = some v_DIGITS := nrfl
@[simp] theorem gl_SIGNS : PG.gl 7 = some v_SIGNS := nrfl
@[simp] theorem gl_MAX_WORD : PG.gl 8 = some v_MAX_WORD := nrfl
@[simp] theorem gl_MAX_SAID : PG.gl 9 = some v_MAX_SAID := nrfl
@[simp] theorem gl_KINDS : PG.gl 10 = some v_KINDS := nrfl
@[simp] theorem gl_LENGTHS : PG.gl 11 = some v_LENGTHS := nrfl
@[simp] theorem cl_Links : PG.cl 0 = some ⟨f_Links___init__, [(3, f_Links_check_slot), (5, f_Links_check_content), (4, f_Links_check_next), (6, f_Links_check_hand), (7, f_Links_check_node)], [2, 1, 0]⟩ := nrfl
@[simp] theorem cl_House : PG.cl 1 = some ⟨f_House___init__, [(18, f_House_main), (20, f_House_slot_names), (15, f_House_has_slot), (14, f_House_has_chart), (16, f_House_has_node), (19, f_House_chart_names), (0, f_House_backs), (17, f_House_is_sheet)], [2, 13, 12, 11, 10, 9, 8]⟩ := nrfl
@[simp] theorem xf_TalkError : PG.xf 2 = [] := nrfl
@[simp] theorem xf_BadText : PG.xf 3 = [24] := nrfl
@[simp] theorem xf_BadHouse : PG.xf 4 = [22, 23] := nrfl
@[simp] theorem xf_Unknown : PG.xf 5 = [21] := nrfl
@[simp] theorem xf_BadSheet : PG.xf 6 = [25] := nrfl
@[simp] theorem xf_BadName : PG.xf 7 = [21] := nrfl
@[simp] theorem sup_TalkError : PG.sup 2 2 = true := nrfl
@[simp] theorem sup_BadText : PG.sup 3 3 = true := nrfl
@[simp] theorem sup_BadHouse : PG.sup 4 4 = true := nrfl
@[simp] theorem sup_Unknown : PG.sup 5 5 = true := nrfl
@[simp] theorem sup_BadSheet : PG.sup 6 6 = true := nrfl
@[simp] theorem sup_BadName : PG.sup 7 7 = true := nrfl
end Tk.K61
/- Mw -/
set_option Elab.async false
set_option linter.all false
set_option maxRecDepth 100000
namespace Tk.K61
open Tk Tk.WP Tk.Md
theorem v_letters : v_LETTERS = .str letters := rfl
theorem v_digits : v_DIGITS = .str digits := rfl
def kinds : List S := [[115, 97, 121], [103, 111], [115, 101, 116], [116, 101, 115, 116], [97, 115, 107], [112, 105, 99, 107], [104, 97, 110, 100], [98, 97, 99, 107], [101, 110, 100]]
theorem v_kinds : v_KINDS = .tup (kinds.map .str) := rfl
theorem in_kinds (k : S) : doIn (.val (.str k)) (.val v_KINDS) = some (decide (k ∈ kinds)) := by rw [v_kinds, in_tup_strs]
variable {C : Nat → CallFn} (hC : Lvl PG C)
include hC
/-! ### words -/
theorem is_word_str (n : Nat) (s : S) (hs : s.length ≤ 16777216) (ob : List Ob) : C (n + 2) f_is_word [.str s] ob = .ok (.val (.bl (isWord s))) ob := by
  rw [hC.eq (Fn := c_is_word) rfl]
  rcases s with _ | ⟨c, r⟩
  · simp [c_is_word, isTy, isWord, v_MAX_WORD]
  replace hs : r.length + 1 ≤ 16777216 := hs
  by_cases h1 : r.length < 12
  case neg =>
    have : (12 : Int) < r.length + 1 := by omega
    simp [c_is_word, isTy, hs, v_MAX_WORD, isWord, h1, this]
  have h1' : ¬ (12 : Int) < r.length + 1 := by omega
  have h1'' : ¬ (r.length + 1 : Int) < 1 := by omega
  by_cases h2 : c ∈ letters
  case neg => simp [c_is_word, isTy, hs, v_MAX_WORD, v_letters, v_digits, isWord, h1, h1', h1'', h2]
  simp [c_is_word, isTy, hs, v_MAX_WORD, v_letters, v_digits, isWord, h1, h1', h1'', h2]
  apply outR_of
  try simp only [post_then]
  have e : D.str [c] :: r.map (fun c => D.str [c]) = (c :: r).map (fun c => D.str [c]) := rfl
  rw [e]
  apply floop_post (I := fun rest S => (∃ j, S = ⟨[some (.val (.str (c :: r))), j], ob⟩) ∧ (wordCh c && r.all wordCh) = rest.all wordCh)
  · exact ⟨⟨_, rfl⟩, rfl⟩
  · rintro t rest S ⟨⟨j, rfl⟩, h⟩
    rw [h]
    simp [forBody, v_letters, v_digits]
    by_cases h3 : t ∈ letters
    · simp [h3, wordCh]
    · by_cases h4 : t ∈ digits
      · simp [h3, h4, wordCh]
      · simp [h3, h4, wordCh]
  · rintro S ⟨⟨j, rfl⟩, h⟩
    simpa using h
theorem is_word_ok (n : Nat) {s : S} (h : isWord s = true) (ob : List Ob) : C (n + 2) f_is_word [.str s] ob = .ok (.val (.bl true)) ob := by
  rw [is_word_str hC n s (by have := isWord_len h; omega), h]
theorem are_different_tup (n : Nat) {l : List S} (h : l.Nodup) (hl : l.length ≤ 1000) (ob : List Ob) : C (n + 2) f_are_different [.tup (l.map .str)] ob = .ok (.val (.bl true)) ob := by
  rw [hC.eq (Fn := c_are_different) rfl]
  simp [c_are_different]
  rw [rangeL_nat (by omega)]
  simp
  apply outR_of
  try simp only [post_then]
  apply floop_rng l (I := fun _ S => ∃ j, S = ⟨[some (.val (.tup (l.map .str))), j], ob⟩)
  · exact ⟨_, rfl⟩
  · rintro pre x r S e ⟨j, rfl⟩
    have h1 : (l.map D.str)[pre.length]? = some (.str x) := by rw [e]; simp
    have h2 : x ∉ pre := by
      rw [e] at h
      exact fun hx => (List.nodup_append.mp h).2.2 x hx x List.mem_cons_self rfl
    simp [forBody, at_tup_k h1]
    rw [slc_tup_to (by rw [e]; simp)]
    have h3 : (l.map D.str).take pre.length = pre.map D.str := by rw [e]; simp
    rw [h3]
    simp [h2]
  · rintro S ⟨j, rfl⟩
    simp
theorem are_different_lst (n : Nat) {l : List S} (h : l.Nodup) (hl : l.length ≤ 1000) (ob : List Ob) : C (n + 2) f_are_different [.lst (l.map .str)] ob = .ok (.val (.bl true)) ob := by
  rw [hC.eq (Fn := c_are_different) rfl]
  simp [c_are_different]
  rw [rangeL_nat (by omega)]
  simp
  apply outR_of
  try simp only [post_then]
  apply floop_rng l (I := fun _ S => ∃ j, S = ⟨[some (.val (.lst (l.map .str))), j], ob⟩)
  · exact ⟨_, rfl⟩
  · rintro pre x r S e ⟨j, rfl⟩
    have h1 : (l.map D.str)[pre.length]? = some (.str x) := by rw [e]; simp
    have h2 : x ∉ pre := by
      rw [e] at h
      exact fun hx => (List.nodup_append.mp h).2.2 x hx x List.mem_cons_self rfl
    simp [forBody, at_lst_k h1]
    rw [slc_lst_to (by rw [e]; simp)]
    have h3 : (l.map D.str).take pre.length = pre.map D.str := by rw [e]; simp
    rw [h3]
    simp [h2]
  · rintro S ⟨j, rfl⟩
    simp
theorem are_words_ok (n : Nat) {l : List S} (h : l.Nodup) (hw : ∀ w ∈ l, isWord w = true) (hl : l.length ≤ 1000) (ob : List Ob) : C (n + 3) f_are_words [.tup (l.map .str)] ob = .ok (.val (.bl true)) ob := by
  rw [hC.eq (Fn := c_are_words) rfl]
  simp [c_are_words, isTy]
  apply outR_of
  try simp only [post_then]
  apply floop_pre (I := fun _ S => ∃ j, S = ⟨[some (.val (.tup (l.map .str))), j], ob⟩)
  · exact ⟨_, rfl⟩
  · rintro pre x r S e ⟨j, rfl⟩
    have : isWord x = true := hw x (by rw [e]; simp)
    simp [forBody, is_word_ok hC n this]
  · rintro S ⟨j, rfl⟩
    simp [are_different_tup hC n h hl]
theorem is_content_ok (n : Nat) {s : S} (h : s = [] ∨ isWord s = true) (ob : List Ob) : C (n + 3) f_is_content [.str s] ob = .ok (.val (.bl true)) ob := by
  rw [hC.eq (Fn := c_is_content) rfl]
  by_cases hs : s = []
  · subst hs; simp [c_is_content, isTy]
  · have h : isWord s = true := h.resolve_left hs
    simp [c_is_content, isTy, hs, is_word_ok hC n h]
theorem are_arms_ok (n : Nat) {l : List (S × S)} {k : Int} (h0 : k ≤ (l.length : Int)) (h4 : l.length ≤ 4) (h : (l.map (·.1)).Nodup) (hw : ∀ a ∈ l, isWord a.1 = true ∧ isWord a.2 = true) (ob : List Ob) :
    C (n + 3) f_are_arms [eArms l, .int k] ob = .ok (.val (.bl true)) ob := by
  rw [hC.eq (Fn := c_are_arms) rfl]
  have g1 : ¬ (l.length : Int) < k := by omega
  have g2 : ¬ (4 : Int) < (l.length : Int) := by omega
  simp [c_are_arms, isTy, eArms, v_MAX_ARMS, g1, g2]
  apply outR_of
  try simp only [post_then]
  apply floop_pre (I := fun _ S => ∃ j, S = ⟨[some (.val (eArms l)), some (.val (.int k)), j], ob⟩)
  · exact ⟨_, rfl⟩
  · rintro pre x r S e ⟨j, rfl⟩
    have := hw x (by rw [e]; simp)
    simp [forBody, eArm, isTy, is_word_ok hC n this.1, is_word_ok hC n this.2]
  · rintro S ⟨j, rfl⟩
    simp [eArms]
    rw [cloop_map (g := fun a : S × S => .val (.str a.1))]
    · have := are_different_lst hC n h (by rw [List.length_map]; omega) ob
      rw [List.map_map] at this
      have g3 : l.length ≤ 16777216 := by omega
      simp only [Function.comp_def] at this
      simp [g3, this]
    · intro t ht
      simp [compBody, eArm]
/-- a text: what is_text, is_sound and places say of it -/
structure TextOk (C : Nat → CallFn) (t : S) (pl : List S) : Prop where
  tx : ∀ n ob, C (n + 2) f_is_text [.str t] ob = .ok (.val (.bl true)) ob
  sd : ∀ n ob, C (n + 4) f_is_sound [.str t] ob = .ok (.val (.bl true)) ob
  pl : ∀ n ob, C (n + 4) f_places [.str t] ob = .ok (.lst (pl.map fun w => .val (.str w))) ob
omit hC in
/-- a node of its own good form -/
inductive NdOk (C : Nat → CallFn) : Nd → Prop
  | say {n t x : S} {pl : List S} : isWord n = true → TextOk C t pl → isWord x = true → NdOk C (.say n t x)
  | go {n x : S} : isWord n = true → isWord x = true → NdOk C (.go n x)
  | set {n s c x : S} : isWord n = true → isWord s = true → (c = [] ∨ isWord c = true) → isWord x = true → NdOk C (.set n s c x)
  | test {n s c y z : S} : isWord n = true → isWord s = true → (c = [] ∨ isWord c = true) → isWord y = true → isWord z = true → NdOk C (.test n s c y z)
  | ask {n s h m : S} {fx : List S} : isWord n = true → isWord s = true → isWord h = true → isWord m = true → fx.Nodup → (∀ w ∈ fx, isWord w = true) → fx.length ≤ 4 → NdOk C (.ask n s h m fx)
  | pick {n : S} {arms : List (S × S)} : isWord n = true → 1 ≤ arms.length → arms.length ≤ 4 → (arms.map (·.1)).Nodup → (∀ a ∈ arms, isWord a.1 = true ∧ isWord a.2 = true) → NdOk C (.pick n arms)
  | hand {n c : S} {arms : List (S × S)} : isWord n = true → isWord c = true → arms.length ≤ 4 → (arms.map (·.1)).Nodup → (∀ a ∈ arms, isWord a.1 = true ∧ isWord a.2 = true) → NdOk C (.hand n c arms)
  | back {n w : S} : isWord n = true → isWord w = true → NdOk C (.back n w)
  | fin {n o : S} : isWord n = true → isWord o = true → NdOk C (.fin n o)
omit hC in
theorem NdOk.nm {d : Nd} (h : NdOk C d) : isWord d.name = true := by cases h <;> assumption
theorem has_parts_ok (n : Nat) {d : Nd} (h : NdOk C d) (ob : List Ob) : C (n + 5) f_has_parts [d.enc] ob = .ok (.val (.bl true)) ob := by
  rw [hC.eq (Fn := c_has_parts) rfl]
  cases h with
  | say h1 h2 h3 => simp [c_has_parts, Nd.enc, h2.tx (n + 2), h2.sd n, is_word_ok hC (n + 2) h3]
  | go h1 h2 => simp [c_has_parts, Nd.enc, is_word_ok hC (n + 2) h2]
  | set h1 h2 h3 h4 => simp [c_has_parts, Nd.enc, is_word_ok hC (n + 2) h2, is_content_ok hC (n + 1) h3, is_word_ok hC (n + 2) h4]
  | test h1 h2 h3 h4 h5 => simp [c_has_parts, Nd.enc, is_word_ok hC (n + 2) h2, is_content_ok hC (n + 1) h3, is_word_ok hC (n + 2) h4, is_word_ok hC (n + 2) h5]
  | ask h1 h2 h3 h4 h5 h6 h7 =>
    have := are_words_ok hC (n + 1) h5 h6 (by omega)
    simp [c_has_parts, Nd.enc, is_word_ok hC (n + 2) h2, is_word_ok hC (n + 2) h3, is_word_ok hC (n + 2) h4, eWs, this, v_MAX_SLOTS]
    omega
  | pick h1 h2 h3 h4 h5 =>
    have := are_arms_ok hC (n + 1) (k := 1) (by omega) h3 h4 h5
    simp [c_has_parts, Nd.enc, this]
  | hand h1 h2 h3 h4 h5 =>
    have := are_arms_ok hC (n + 1) (k := 0) (by omega) h3 h4 h5
    simp [c_has_parts, Nd.enc, is_word_ok hC (n + 2) h2, this]
  | back h1 h2 => simp [c_has_parts, Nd.enc, is_word_ok hC (n + 2) h2]
  | fin h1 h2 => simp [c_has_parts, Nd.enc, is_word_ok hC (n + 2) h2]
theorem is_node_ok (n : Nat) {d : Nd} (h : NdOk C d) (ob : List Ob) : C (n + 6) f_is_node [d.enc] ob = .ok (.val (.bl true)) ob := by
  rw [hC.eq (Fn := c_is_node) rfl]
  have hp := fun ob => has_parts_ok hC n h ob
  have hn := h.nm
  cases h <;> simp only [Nd.enc, Nd.name] at hp hn ⊢ <;> simp [c_is_node, is_word_ok hC (n + 3) hn, hp, isTy, in_kinds, kinds, v_LENGTHS]
/-- a slot, a chart of good form -/
structure SlotOk (s : Slot) : Prop where
  nm : isWord s.1 = true
  ws : ∀ w ∈ s.2, isWord w = true
  nd : s.2.Nodup
  l1 : 1 ≤ s.2.length
  l4 : s.2.length ≤ 4
structure ChartOk (C : Nat → CallFn) (c : Chart) : Prop where
  nm : isWord c.1 = true
  ns : ∀ d ∈ c.2, NdOk C d
  nd : (c.2.map Nd.name).Nodup
  l1 : 1 ≤ c.2.length
  l4 : c.2.length ≤ 40
theorem check_slots_ok (n : Nat) {l : List Slot} (hl : l.length ≤ 4) (h : ∀ s ∈ l, SlotOk s) (hd : (l.map (·.1)).Nodup) (ob : List Ob) : C (n + 4) f_check_slots [eSlots l] ob = .ok (.val .non) ob := by
  rw [hC.eq (Fn := c_check_slots) rfl]
  have g1 : ¬ (4 : Int) < (l.length : Int) := by omega
  simp [c_check_slots, isTy, eSlots, v_MAX_SLOTS, g1]
  rw [rangeL_nat (by omega)]
  simp
  apply outR_of
  try simp only [post_then]
  apply floop_rng l (I := fun pre S => ∃ j k, S = ⟨[some (.val (eSlots l)), some (.lst (pre.map fun s => .val (.str s.1))), j, k], ob⟩)
  · exact ⟨_, _, rfl⟩
  · rintro pre x r S e ⟨j, k, rfl⟩
    have h1 : (l.map eSlot)[pre.length]? = some (eSlot x) := by rw [e]; simp
    have h2 : x.1 ∉ pre.map (·.1) := by
      rw [e, List.map_append] at hd
      exact fun hx => (List.nodup_append.mp hd).2.2 _ hx x.1 List.mem_cons_self rfl
    have hx := h x (by rw [e]; simp)
    have g2 := are_words_ok hC n hx.nd hx.ws (by have := hx.l4; omega)
    have g3 : ¬ (x.2.length : Int) < 1 := by have := hx.l1; omega
    have g4 : ¬ (4 : Int) < (x.2.length : Int) := by have := hx.l4; omega
    have g5 := in_mlst_strs (s := x.1) (l := pre.map (·.1))
    rw [List.map_map] at g5
    simp only [Function.comp_def] at g5
    have g6 : pre.length < 16777216 := by have := congrArg List.length e; simp at this; omega
    simp [forBody, eSlots, at_tup_k h1]
    simp [eSlot, eWs, is_word_ok hC (n + 1) hx.nm, isTy, g2, g3, g4, g5, h2, v_MAX_VALUES, g6]
  · rintro S ⟨j, k, rfl⟩
    simp
theorem check_nodes_ok (n : Nat) {l : List Nd} {j : Nat} (hl : l.length ≤ 40) (h : ∀ d ∈ l, NdOk C d) (hd : (l.map Nd.name).Nodup) (ob : List Ob) : C (n + 7) f_check_nodes [.tup (l.map Nd.enc), .int j] ob = .ok (.val .non) ob := by
  rw [hC.eq (Fn := c_check_nodes) rfl]
  simp [c_check_nodes]
  rw [rangeL_nat (by omega)]
  simp
  apply outR_of
  try simp only [post_then]
  apply floop_rng l (I := fun pre S => ∃ k, S = ⟨[some (.val (.tup (l.map Nd.enc))), some (.val (.int j)), some (.lst (pre.map fun s => .val (.str s.name))), k], ob⟩)
  · exact ⟨_, rfl⟩
  · rintro pre x r S e ⟨k, rfl⟩
    have h1 : (l.map Nd.enc)[pre.length]? = some x.enc := by rw [e]; simp
    have h2 : x.name ∉ pre.map Nd.name := by
      rw [e, List.map_append] at hd
      exact fun hx => (List.nodup_append.mp hd).2.2 _ hx x.name List.mem_cons_self rfl
    have hx := h x (by rw [e]; simp)
    have g5 := in_mlst_strs (s := x.name) (l := pre.map Nd.name)
    rw [List.map_map] at g5
    simp only [Function.comp_def] at g5
    have g6 : pre.length < 16777216 := by have := congrArg List.length e; simp at this; omega
    have g7 : (M.val x.enc).at_ (.int 1) = some (.val (.str x.name)) := by cases x <;> simp [Nd.enc, Nd.name]
    simp [forBody, at_tup_k h1, is_node_ok hC n hx, g7, g5, h2, g6]
  · rintro S ⟨k, rfl⟩
    simp
theorem check_charts_ok (n : Nat) {l : List Chart} (hl : 1 ≤ l.length) (hl6 : l.length ≤ 6) (h : ∀ c ∈ l, ChartOk C c) (hd : (l.map (·.1)).Nodup) (ob : List Ob) : C (n + 8) f_check_charts [eCharts l] ob = .ok (.val .non) ob := by
  rw [hC.eq (Fn := c_check_charts) rfl]
  have g0 : ¬ (l.length : Int) < 1 := by omega
  have g1 : ¬ (6 : Int) < (l.length : Int) := by omega
  simp [c_check_charts, isTy, eCharts, v_MAX_CHARTS, g0, g1]
  rw [rangeL_nat (by omega)]
  simp
  apply outR_of
  try simp only [post_then]
  apply floop_rng l (I := fun pre S => ∃ j k, S = ⟨[some (.val (eCharts l)), some (.lst (pre.map fun s => .val (.str s.1))), j, k], ob⟩)
  · exact ⟨_, _, rfl⟩
  · rintro pre x r S e ⟨j, k, rfl⟩
    have h1 : (l.map eChart)[pre.length]? = some (eChart x) := by rw [e]; simp
    have h2 : x.1 ∉ pre.map (·.1) := by
      rw [e, List.map_append] at hd
      exact fun hx => (List.nodup_append.mp hd).2.2 _ hx x.1 List.mem_cons_self rfl
    have hx := h x (by rw [e]; simp)
    have g3 : ¬ (x.2.length : Int) < 1 := by have := hx.l1; omega
    have g4 : ¬ (40 : Int) < (x.2.length : Int) := by have := hx.l4; omega
    have g5 := in_mlst_strs (s := x.1) (l := pre.map (·.1))
    rw [List.map_map] at g5
    simp only [Function.comp_def] at g5
    have g6 : pre.length < 16777216 := by have := congrArg List.length e; simp at this; omega
    have g7 := check_nodes_ok hC n (j := pre.length) hx.l4 hx.ns hx.nd
    simp [forBody, eCharts, at_tup_k h1]
    simp [eChart, is_word_ok hC (n + 5) hx.nm, isTy, g3, g4, g5, h2, v_MAX_NODES, g6, g7]
  · rintro S ⟨j, k, rfl⟩
    simp
/-! ### the words that are handed back -/
omit hC in
theorem put_keys (w : S) : ∀ ks : List S, putK (.str w) (.val (.bl true)) (ks.map fun k => (D.str k, M.val (.bl true))) = (addS w ks).map fun k => (D.str k, M.val (.bl true))
  | [] => rfl
  | k :: ks => by
    rw [List.map_cons, putK_cons, eqK_str]
    by_cases h : k = w
    · subst h; simp [addS]
    · simp [addS, h, put_keys w ks]
omit hC in
theorem addS_len (w : S) : ∀ ks : List S, (addS w ks).length ≤ ks.length + 1
  | [] => Nat.le_refl _
  | k :: ks => by
    unfold addS
    split
    · simp
    · simp; exact addS_len w ks
omit hC in
theorem backKeys_len : ∀ (l : List Nd) (ks : List S), (backKeys ks l).length ≤ ks.length + l.length
  | [], ks => Nat.le_refl _
  | d :: l, ks => by
    have h1 := backKeys_len l ks
    cases d <;> simp only [backKeys, List.length_cons] <;> try omega
    rename_i n w
    have h2 := backKeys_len l (addS w ks)
    have h3 := addS_len w ks
    omega
omit hC in
theorem allStr_map (l : List S) : allStr (l.map D.str) = some l := by
  induction l with
  | nil => rfl
  | cons x l ih => show (allStr (l.map D.str)).map (x :: ·) = _; rw [ih]; rfl
theorem back_words_ok (n : Nat) {l : List Nd} (hl : l.length ≤ 40) (ob : List Ob) : C (n + 2) f_back_words [.tup (l.map Nd.enc)] ob = .ok (.val (eWs (backsOf l))) ob := by
  rw [hC.eq (Fn := c_back_words) rfl]
  simp [c_back_words]
  apply outR_of
  try simp only [post_then]
  apply floop_pre (I := fun pre S => ∃ k, S = ⟨[some (.val (.tup (l.map Nd.enc))), some (.dct ((backKeys [] pre).map fun k => (D.str k, M.val (.bl true)))), k], ob⟩)
  · exact ⟨_, rfl⟩
  · rintro pre x r S e ⟨k, rfl⟩
    have key : ∀ (pre : List Nd) (ks : List S), backKeys ks (pre ++ [x]) = match x with | .back _ w => addS w (backKeys ks pre) | _ => backKeys ks pre := by
      intro pre
      induction pre with
      | nil => intro ks; cases x <;> rfl
      | cons d pre ih => intro ks; cases d <;> exact ih _
    have hz : (backKeys [] pre).length < 16777216 := by
      have h1 := backKeys_len pre []
      have h2 := congrArg List.length e
      simp at h1 h2
      omega
    cases x <;> simp [forBody, Nd.enc, key, put_keys, hz]
  · rintro S ⟨k, rfl⟩
    have h1 := backKeys_len l []
    simp at h1
    have h2 : (backKeys [] l).length < 64 := by omega
    have h3 : ((fun x : D × M => x.fst) ∘ fun k : S => (D.str k, M.val (D.bl true))) = D.str := rfl
    simp [doSorted, h3, allStr_map, h2, eWs, backsOf]
/-! ### Links -/
def dSlots (l : List Slot) : M := .dct (l.map fun s => (D.str s.1, M.val (eWs s.2)))
def dNodes (l : List Chart) : M := .dct (l.map fun c => (D.str c.1, M.lst (c.2.map fun d => .val (.str d.name))))
def dBacks (l : List Chart) : M := .dct (l.map fun c => (D.str c.1, M.val (eWs (backsOf c.2))))
def oLinks (sl : List Slot) (ch : List Chart) : Ob := ⟨k_Links, [(a_slots, dSlots sl), (a_nodes, dNodes ch), (a_backs, dBacks ch)]⟩
omit hC in
@[simp] theorem oLinks_cls {sl : List Slot} {ch : List Chart} : (oLinks sl ch).cls = 0 := nrfl
omit hC in
@[simp] theorem oLinks_fs {sl : List Slot} {ch : List Chart} : (oLinks sl ch).fs = [(2, dSlots sl), (1, dNodes ch), (0, dBacks ch)] := nrfl
omit hC in
theorem put_new {τ α : Type} (f : τ → S) (g : τ → α) {x : τ} : ∀ {l : List τ}, f x ∉ l.map f → putK (.str (f x)) (g x) (l.map fun t => (D.str (f t), g t)) = (l ++ [x]).map fun t => (D.str (f t), g t)
  | [], _ => rfl
  | k :: l, h => by
    rw [List.map_cons, List.mem_cons, not_or] at h
    have h1 : ¬ f k = f x := fun e => h.1 e.symm
    rw [List.map_cons, putK_cons, eqK_str, put_new f g h.2]
    simp [h1]
omit hC in
theorem fresh {τ : Type} {f : τ → S} {l pre r : List τ} {x : τ} (hd : (l.map f).Nodup) (e : l = pre ++ x :: r) : f x ∉ pre.map f := by
  rw [e, List.map_append] at hd
  exact fun hx => (List.nodup_append.mp hd).2.2 _ hx _ List.mem_cons_self rfl
theorem Links_init_ok (n : Nat) {sl : List Slot} {ch : List Chart} (hs : (sl.map (·.1)).Nodup) (hsl : sl.length ≤ 4) (hc : (ch.map (·.1)).Nodup) (hcl : ch.length ≤ 6) (hn : ∀ c ∈ ch, c.2.length ≤ 40) (ob : List Ob) :
    C (n + 3) f_Links___init__ [.obj ob.length, eSlots sl, eCharts ch] (ob ++ [⟨k_Links, []⟩]) = .ok (.val .non) (ob ++ [oLinks sl ch]) := by
  rw [hC.eq (Fn := c_Links___init__) rfl]
  simp [c_Links___init__, eSlots, eCharts, get_mid, set_mid]
  apply outR_of
  try simp only [post_then]
  apply floop_pre (I := fun pre S => ∃ j k, S = ⟨[some (.val (.obj ob.length)), some (.val (eSlots sl)), some (.val (eCharts ch)), j, k, none, none], ob ++ [⟨k_Links, [(a_slots, dSlots pre)]⟩]⟩)
  · exact ⟨_, _, rfl⟩
  · rintro pre x r S e ⟨j, k, rfl⟩
    have h1 := put_new (fun s : Slot => s.1) (fun s => M.val (eWs s.2)) (fresh hs e)
    have h2 := pre_len e
    have h3 : pre.length < 16777216 := by omega
    simp [forBody, eSlot, get_mid, set_mid, dSlots, h1, h3]
  · rintro S ⟨j, k, rfl⟩
    simp [get_mid, set_mid, eCharts]
    try simp only [post_then]
    apply floop_pre (I := fun pre S => ∃ j k k', S = ⟨[some (.val (.obj ob.length)), some (.val (eSlots sl)), some (.val (eCharts ch)), j, k, k', none], ob ++ [⟨k_Links, [(a_slots, dSlots sl), (a_nodes, dNodes pre), (a_backs, dBacks pre)]⟩]⟩)
    · exact ⟨_, _, _, rfl⟩
    · rintro pre x r S e ⟨j, k, k', rfl⟩
      have h1 := put_new (fun c : Chart => c.1) (fun c => M.lst (c.2.map fun d => .val (.str d.name))) (fresh hc e)
      have h1' := put_new (fun c : Chart => c.1) (fun c => M.val (eWs (backsOf c.2))) (fresh hc e)
      have h2 := pre_len e
      have h3 : pre.length < 16777216 := by omega
      have h4 := hn x (by rw [e]; simp)
      have h5 : x.2.length ≤ 16777216 := by omega
      have g7 : ∀ x : Nd, (M.val x.enc).at_ (.int 1) = some (.val (.str x.name)) := fun x => by cases x <;> simp [Nd.enc, Nd.name]
      simp [forBody, eChart]
      rw [cloop_map (g := fun d : Nd => .val (.str d.name))]
      · simp [get_mid, set_mid, dNodes, dBacks, h5, h3, h1, h1', back_words_ok hC n h4]
      · intro t ht
        simp [compBody, g7]
    · rintro S ⟨j, k, k', rfl⟩
      simp [oLinks]
omit hC in
theorem get_key {τ α : Type} (f : τ → S) (g : τ → α) {x : τ} : ∀ {l : List τ}, (l.map f).Nodup → x ∈ l → getK (.str (f x)) (l.map fun t => (D.str (f t), g t)) = some (g x)
  | [], _, h => by cases h
  | k :: l, nd, h => by
    rw [List.map_cons, List.nodup_cons] at nd
    rcases List.mem_cons.mp h with rfl | h
    · simp
    · have h1 : ¬ f k = f x := fun e => nd.1 (by rw [e]; exact List.mem_map_of_mem h)
      simp [h1, get_key f g nd.2 h]
omit hC in
theorem get_some {τ α : Type} (f : τ → S) (g : τ → α) {s : S} : ∀ {l : List τ}, s ∈ l.map f → (getK (.str s) (l.map fun t => (D.str (f t), g t))).isSome = true
  | [], h => by cases h
  | k :: l, h => by
    by_cases e : f k = s
    · simp [e]
    · have : s ∈ l.map f := by
        rcases List.mem_cons.mp h with rfl | h
        · exact absurd rfl e
        · exact h
      simpa [e] using get_some f g this
section
variable {sl : List Slot} {ch : List Chart} {ob : List Ob} {i : Nat} (ho : ob[i]? = some (oLinks sl ch))
include ho
theorem check_slot_ok (n : Nat) {s : S} {p : D} (h : s ∈ sl.map (·.1)) : C (n + 2) f_Links_check_slot [.obj i, .str s, p] ob = .ok (.val .non) ob := by
  rw [hC.eq (Fn := c_Links_check_slot) rfl]
  have := get_some (fun s : Slot => s.1) (fun s => M.val (eWs s.2)) h
  simp [c_Links_check_slot, ho, oLinks, dSlots, this]
theorem check_content_ok (n : Nat) {s c : S} {ws : List S} {p : D} (hd : (sl.map (·.1)).Nodup) (h : (s, ws) ∈ sl) (hc : c = [] ∨ c ∈ ws) : C (n + 3) f_Links_check_content [.obj i, .str s, .str c, p] ob = .ok (.val .non) ob := by
  rw [hC.eq (Fn := c_Links_check_content) rfl]
  have h1 : s ∈ sl.map (·.1) := List.mem_map.mpr ⟨_, h, rfl⟩
  have h2 := check_slot_ok hC ho n (p := p) h1
  have h3 := get_key (fun s : Slot => s.1) (fun s => M.val (eWs s.2)) hd h
  simp only at h3
  by_cases he : c = []
  · subst he
    simp [c_Links_check_content, ho, oLinks, dSlots]
    simp [h2]
  · have hw := hc.resolve_left he
    simp [c_Links_check_content, ho, oLinks, dSlots]
    have h4 : doIn (.val (.str c)) (.val (eWs ws)) = some (decide (c ∈ ws)) := in_tup_strs
    simp [h2, he, ho, oLinks, dSlots, h3, h4, hw]
theorem check_next_ok (n : Nat) {c : S} {nodes : List Nd} {names : List S} {p : D} (hd : (ch.map (·.1)).Nodup) (h : (c, nodes) ∈ ch) (hn : ∀ x ∈ names, x ∈ nodes.map Nd.name) : C (n + 2) f_Links_check_next [.obj i, .str c, .lst (names.map .str), p] ob = .ok (.val .non) ob := by
  rw [hC.eq (Fn := c_Links_check_next) rfl]
  have h3 := get_key (fun c : Chart => c.1) (fun c => M.lst (c.2.map fun d => .val (.str d.name))) hd h
  simp only at h3
  simp [c_Links_check_next]
  apply outR_of
  try simp only [post_then]
  apply floop_pre (I := fun _ S => ∃ j, S = ⟨[some (.val (.obj i)), some (.val (.str c)), some (.val (.lst (names.map .str))), some (.val p), j], ob⟩)
  · exact ⟨_, rfl⟩
  · rintro pre x r S e ⟨j, rfl⟩
    have hx := hn x (by rw [e]; simp)
    have g5 := in_mlst_strs (s := x) (l := nodes.map Nd.name)
    rw [List.map_map] at g5
    simp only [Function.comp_def] at g5
    simp [forBody, ho, oLinks, dNodes, h3, g5, hx]
  · rintro S ⟨j, rfl⟩
    simp
theorem check_hand_ok (n : Nat) {nm c : S} {arms : List (S × S)} {nodes : List Nd} {p : D} (hd : (ch.map (·.1)).Nodup) (h : (c, nodes) ∈ ch) (ha : arms.map (·.1) = backsOf nodes) (hw : ∀ a ∈ arms, isWord a.1 = true) (hl : arms.length ≤ 4) : C (n + 2) f_Links_check_hand [.obj i, (Nd.hand nm c arms).enc, p] ob = .ok (.val .non) ob := by
  rw [hC.eq (Fn := c_Links_check_hand) rfl]
  have h1 : c ∈ ch.map (·.1) := List.mem_map.mpr ⟨_, h, rfl⟩
  have h2 := get_some (fun c : Chart => c.1) (fun c => M.lst (c.2.map fun d => .val (.str d.name))) h1
  have h3 := get_key (fun c : Chart => c.1) (fun c => M.val (eWs (backsOf c.2))) hd h
  simp only at h3
  have h4 : ∀ s ∈ arms.map (·.1), strB s = true := by
    intro s hs
    obtain ⟨a, ha, rfl⟩ := List.mem_map.mp hs
    exact isWord_strB (hw a ha)
  have h5 := eqD_strs h4 h4
  rw [List.map_map] at h5
  have h6 : arms.length ≤ 16777216 := by omega
  simp [c_Links_check_hand, Nd.enc, eArms, ho, oLinks, dNodes, h2]
  rw [cloop_map (g := fun a : S × S => .val (.str a.1))]
  · have h7 : eqD (.tup (arms.map fun a => D.str a.1)) (eWs (backsOf nodes)) = some true := by
      unfold eWs
      rw [← ha, List.map_map]
      simp only [Function.comp_def, beq_self_eq_true] at h5 ⊢
      exact h5
    simp [ho, oLinks, dBacks, h3, h6, h7]
  · intro t ht
    simp [compBody, eArm]
/-- what a node points to is there -/
inductive LinkOk (C : Nat → CallFn) (sl : List Slot) (ch : List Chart) (names : List S) (main : Bool) : Nd → Prop
  | say {n t x : S} {pl : List S} : TextOk C t pl → (∀ s ∈ pl, s ∈ sl.map (·.1)) → x ∈ names → LinkOk C sl ch names main (.say n t x)
  | go {n x : S} : x ∈ names → LinkOk C sl ch names main (.go n x)
  | set {n s c x : S} {ws : List S} : (s, ws) ∈ sl → (c = [] ∨ c ∈ ws) → x ∈ names → LinkOk C sl ch names main (.set n s c x)
  | test {n s c y z : S} {ws : List S} : (s, ws) ∈ sl → (c = [] ∨ c ∈ ws) → y ∈ names → z ∈ names → LinkOk C sl ch names main (.test n s c y z)
  | ask {n s h m : S} {fx : List S} : s ∈ sl.map (·.1) → h ∈ names → m ∈ names → (∀ f ∈ fx, f ∈ sl.map (·.1)) → LinkOk C sl ch names main (.ask n s h m fx)
  | pick {n : S} {arms : List (S × S)} : arms.length ≤ 4 → (∀ a ∈ arms, a.2 ∈ names) → LinkOk C sl ch names main (.pick n arms)
  | hand {n c : S} {arms : List (S × S)} {nodes : List Nd} : (c, nodes) ∈ ch → arms.map (·.1) = backsOf nodes → (∀ a ∈ arms, isWord a.1 = true) → arms.length ≤ 4 → (∀ a ∈ arms, a.2 ∈ names) → LinkOk C sl ch names main (.hand n c arms)
  | back {n w : S} : main = false → LinkOk C sl ch names main (.back n w)
  | fin {n o : S} : LinkOk C sl ch names main (.fin n o)
theorem check_node_ok (n : Nat) {c : S} {nodes : List Nd} {d : Nd} {main : Bool} {p : D} (hs : (sl.map (·.1)).Nodup) (hd : (ch.map (·.1)).Nodup) (h : (c, nodes) ∈ ch) (hk : LinkOk C sl ch (nodes.map Nd.name) main d) :
    C (n + 5) f_Links_check_node [.obj i, .str c, d.enc, p, .bl main] ob = .ok (.val .non) ob := by
  rw [hC.eq (Fn := c_Links_check_node) rfl]
  have N : ∀ {names : List S}, (∀ x ∈ names, x ∈ nodes.map Nd.name) → C (n + 4) f_Links_check_next [.obj i, .str c, .lst (names.map .str), p] ob = .ok (.val .non) ob := fun hn => check_next_ok hC ho (n + 2) hd h hn
  have N1 : ∀ {x : S}, x ∈ nodes.map Nd.name → C (n + 4) f_Links_check_next [.obj i, .str c, .lst [.str x], p] ob = .ok (.val .non) ob := fun {x} hx => N (names := [x]) (by intro z hz; simp at hz; subst hz; exact hx)
  have N2 : ∀ {x y : S}, x ∈ nodes.map Nd.name → y ∈ nodes.map Nd.name → C (n + 4) f_Links_check_next [.obj i, .str c, .lst [.str x, .str y], p] ob = .ok (.val .non) ob := fun {x y} hx hy => N (names := [x, y]) (by intro z hz; simp at hz; rcases hz with rfl | rfl <;> assumption)
  have K : ∀ {s : S}, s ∈ sl.map (·.1) → C (n + 4) f_Links_check_slot [.obj i, .str s, p] ob = .ok (.val .non) ob := fun hx => check_slot_ok hC ho (n + 2) hx
  have ho' : ob[i]? = some ⟨0, [(2, dSlots sl), (1, dNodes ch), (0, dBacks ch)]⟩ := ho
  cases hk with
  | @say n_1 t_1 x_1 pl h1 h2 h3 =>
    have e1 := h1.pl n ob
    have h4 := N1 h3
    simp [c_Links_check_node, Nd.enc, e1]
    apply outR_of
    simp only [post_then]
    apply floop_pre (I := fun _ S => ∃ j, S = ⟨[some (.val (.obj i)), some (.val (.str c)), some (.val (.tup [.str [115, 97, 121], .str n_1, .str t_1, .str x_1])), some (.val p), some (.val (.bl main)), some (.val (.str [115, 97, 121])), j, none], ob⟩)
    · exact ⟨_, rfl⟩
    · rintro pre x r S e ⟨j, rfl⟩
      have hx := K (h2 x (by rw [e]; simp))
      simp [forBody, ho', hx]
    · rintro S ⟨j, rfl⟩
      simp [ho', h4]
  | go h1 =>
    have h4 := N1 h1
    simp [c_Links_check_node, Nd.enc, ho', h4]
  | set h1 h2 h3 =>
    have h4 := N1 h3
    have h5 := check_content_ok hC ho (n + 1) (p := p) hs h1 h2
    simp [c_Links_check_node, Nd.enc, ho', h4, h5]
  | test h1 h2 h3 h4 =>
    have h4 := N2 h3 h4
    have h5 := check_content_ok hC ho (n + 1) (p := p) hs h1 h2
    simp [c_Links_check_node, Nd.enc, ho', h4, h5]
  | @ask n_1 s h_1 m fx h1 h2 h3 h4 =>
    have h5 := N2 h2 h3
    simp [c_Links_check_node, Nd.enc, ho', h5, K h1, eWs]
    apply outR_of
    apply floop_pre (I := fun _ S => ∃ j, S = ⟨[some (.val (.obj i)), some (.val (.str c)), some (.val (.tup [.str [97, 115, 107], .str n_1, .str s, .str h_1, .str m, .tup (fx.map .str)])), some (.val p), some (.val (.bl main)), some (.val (.str [97, 115, 107])), j, none], ob⟩)
    · exact ⟨_, rfl⟩
    · rintro pre x r S e ⟨j, rfl⟩
      have hx := K (h4 x (by rw [e]; simp))
      simp [forBody, ho', hx]
    · rintro S ⟨j, rfl⟩
      simp
  | pick h1 h2 =>
    rename_i arms
    have h3 := N (names := arms.map (·.2)) (fun x hx => by obtain ⟨a, ha, rfl⟩ := List.mem_map.mp hx; exact h2 a ha)
    have h4 : arms.length ≤ 16777216 := by omega
    simp [c_Links_check_node, Nd.enc, ho', eArms]
    rw [cloop_map (g := fun a : S × S => .val (.str a.2))]
    · rw [List.map_map] at h3
      simp only [Function.comp_def] at h3
      simp [ho', h3, h4]
    · intro t ht
      simp [compBody, eArm]
  | hand h1 h2 h3 h4 h5 =>
    rename_i nm c' arms nodes'
    have h6 := N (names := arms.map (·.2)) (fun x hx => by obtain ⟨a, ha, rfl⟩ := List.mem_map.mp hx; exact h5 a ha)
    have h7 := check_hand_ok hC ho (n + 2) (nm := nm) (p := p) hd h1 h2 h3 h4
    have h8 : arms.length ≤ 16777216 := by omega
    simp only [Nd.enc] at h7
    have h9 : (M.val (eArms arms)).items = some (arms.map eArm) := rfl
    simp [c_Links_check_node, Nd.enc, ho', h7, h9]
    rw [cloop_map (g := fun a : S × S => .val (.str a.2))]
    · rw [List.map_map] at h6
      simp only [Function.comp_def] at h6
      simp [ho', h6, h8]
    · intro t ht
      simp [compBody, eArm]
  | back h1 =>
    subst h1
    simp [c_Links_check_node, Nd.enc]
  | fin => simp [c_Links_check_node, Nd.enc]
end
/-- slots and charts that make a house -/
structure HouseOk (C : Nat → CallFn) (sl : List Slot) (ch : List Chart) : Prop where
  s4 : sl.length ≤ 4
  so : ∀ s ∈ sl, SlotOk s
  sd : (sl.map (·.1)).Nodup
  c1 : 1 ≤ ch.length
  c6 : ch.length ≤ 6
  co : ∀ c ∈ ch, ChartOk C c
  cd : (ch.map (·.1)).Nodup
  lk : ∀ (j : Nat) (c : Chart), ch[j]? = some c → ∀ d ∈ c.2, LinkOk C sl ch (c.2.map Nd.name) (j == 0) d
theorem check_links_ok (n : Nat) {sl : List Slot} {ch : List Chart} (H : HouseOk C sl ch) (ob : List Ob) : C (n + 6) f_check_links [eSlots sl, eCharts ch] ob = .ok (.val .non) (ob ++ [oLinks sl ch]) := by
  rw [hC.eq (Fn := c_check_links) rfl]
  have hn : ∀ c ∈ ch, c.2.length ≤ 40 := fun c hc => (H.co c hc).l4
  have h1 := Links_init_ok hC (n + 1) H.sd H.s4 H.cd H.c6 hn ob
  simp only [k_Links] at h1
  simp [c_check_links, h1]
  apply outR_of
  try simp only [post_then]
  have hlen : doLen (.val (eCharts ch)) = some (.val (.int ch.length)) := by simp [eCharts]
  simp [hlen]
  have := H.c6
  rw [rangeL_nat (by omega)]
  simp
  apply floop_rng ch (I := fun _ S => ∃ j k l m, S = ⟨[some (.val (eSlots sl)), some (.val (eCharts ch)), some (.val (.obj ob.length)), j, k, l, m], ob ++ [oLinks sl ch]⟩)
  · exact ⟨_, _, _, _, rfl⟩
  · rintro pre x r S e ⟨j, k, l, m, rfl⟩
    have hx : (M.val (eCharts ch)).at_ (.int pre.length) = some (.val (eChart x)) := at_tup_k (by rw [e]; simp)
    have hm : x ∈ ch := by rw [e]; simp
    have h4 := (H.co x hm).l4
    simp [forBody, hx]
    simp [eChart]
    rw [rangeL_nat (by omega)]
    simp
    try simp only [post_then]
    apply floop_rng x.2 (I := fun _ S => ∃ j', S = ⟨[some (.val (eSlots sl)), some (.val (eCharts ch)), some (.val (.obj ob.length)), some (.val (.int pre.length)), some (.val (.str x.1)), some (.val (.tup (x.2.map Nd.enc))), j'], ob ++ [oLinks sl ch]⟩)
    · exact ⟨_, rfl⟩
    · rintro pre' d r' S e' ⟨j', rfl⟩
      have hd : (x.2.map Nd.enc)[pre'.length]? = some d.enc := by rw [e']; simp
      have hk := H.lk pre.length x (by rw [e]; simp) d (by rw [e']; simp)
      have ho : (ob ++ [oLinks sl ch])[ob.length]? = some (oLinks sl ch) := by simp
      have ho' : (ob ++ [oLinks sl ch])[ob.length]? = some ⟨0, [(2, dSlots sl), (1, dNodes ch), (0, dBacks ch)]⟩ := ho
      have hc := check_node_ok hC ho n (p := .tup [.int pre.length, .int pre'.length]) H.sd H.cd (show (x.1, x.2) ∈ ch from hm) hk
      have e0 : ((pre.length : Int) == 0) = (pre.length == 0) := by
        rw [Bool.eq_iff_iff]; simp
      simp only [← e0] at hc
      simp [forBody, at_tup_k hd, hc]
    · rintro S ⟨j', rfl⟩
      exact ⟨_, _, _, _, rfl⟩
  · rintro S ⟨j, k, l, m, rfl⟩
    simp
end Tk.K61
/- Mh -/
set_option Elab.async false
set_option linter.all false
set_option maxRecDepth 100000
namespace Tk.K61
open Tk Tk.WP Tk.Md
variable {C : Nat → CallFn} (hC : Lvl PG C)
include hC
/-! ### House -/
def dPlaces (l : List Slot) : M := .dct (l.zipIdx.map fun p => (D.str p.1.1, M.val (.int (p.2 : Int))))
def dConts (l : List Slot) : M := .dct (l.map fun s => (D.str s.1, M.val (eWs ([] :: s.2))))
def dTables (l : List Chart) : M := .dct (l.map fun c => (D.str c.1, M.val (.dct (c.2.map fun d => (.str d.name, d.enc)))))
def dFirsts (l : List Chart) : M := .dct (l.map fun c => (D.str c.1, M.val (.str (firstName c.2))))
def oHouse (sl : List Slot) (ch : List Chart) : Ob := ⟨k_House, [(a_slots, .val (eSlots sl)), (a_charts, .val (eCharts ch)), (a__places, dPlaces sl), (a__contents, dConts sl), (a__nodes, dTables ch), (a__firsts, dFirsts ch), (a__backs, dBacks ch)]⟩
theorem House_init_ok (n : Nat) {sl : List Slot} {ch : List Chart} (H : HouseOk C sl ch) (ob : List Ob) :
    C (n + 9) f_House___init__ [.obj ob.length, eSlots sl, eCharts ch] (ob ++ [⟨k_House, []⟩]) = .ok (.val .non) (ob ++ [oHouse sl ch, oLinks sl ch]) := by
  rw [hC.eq (Fn := c_House___init__) rfl]
  have h1 := check_slots_ok hC (n + 4) H.s4 H.so H.sd
  have h2 := check_charts_ok hC n H.c1 H.c6 H.co H.cd
  have h3 := check_links_ok hC (n + 2) H
  have hlen : doLen (.val (eSlots sl)) = some (.val (.int sl.length)) := by simp [eSlots]
  have hs4 := H.s4
  simp [c_House___init__, h1, h2, h3, get_mid, set_mid, hlen]
  rw [rangeL_nat (by omega)]
  simp
  apply outR_of
  try simp only [post_then]
  apply floop_rng sl (I := fun pre S => ∃ j, S = ⟨[some (.val (.obj ob.length)), some (.val (eSlots sl)), some (.val (eCharts ch)), j, none, none, none, none], ob ++ [⟨k_House, [(a_slots, .val (eSlots sl)), (a_charts, .val (eCharts ch)), (a__places, dPlaces pre), (a__contents, dConts pre)]⟩, oLinks sl ch]⟩)
  · exact ⟨_, rfl⟩
  · rintro pre x r S e ⟨j, rfl⟩
    have g1 : (M.val (eSlots sl)).at_ (.int pre.length) = some (.val (eSlot x)) := at_tup_k (by rw [e]; simp)
    have g2 : x.1 ∉ pre.map (·.1) := fresh H.sd e
    have g3 : x.1 ∉ pre.zipIdx.map (fun p => p.1.1) := by
      rw [show (fun p : Slot × Nat => p.1.1) = (fun s : Slot => s.1) ∘ Prod.fst from rfl, ← List.map_map, List.zipIdx_map_fst]
      exact g2
    have g4 := put_new (fun p : Slot × Nat => p.1.1) (fun p => M.val (.int (p.2 : Int))) (x := (x, pre.length)) g3
    have g5 := put_new (fun s : Slot => s.1) (fun s => M.val (eWs ([] :: s.2))) g2
    have g6 := pre_len e
    have g7 : pre.length < 16777216 := by omega
    have hx := H.so x (by rw [e]; simp)
    have g8 : x.2.length + 1 ≤ 16777216 := by have := hx.l4; omega
    have g9 : doAdd (.val (.tup [.str []])) (.val (eWs x.2)) = some (.val (eWs ([] :: x.2))) := by
      simp [doAdd, M.asInt, M.asStr, eWs]
      omega
    have g10 : (pre ++ [x]).zipIdx = pre.zipIdx ++ [(x, pre.length)] := by rw [List.zipIdx_append]; simp
    simp only [] at g4 g5
    simp [forBody, g1, eSlot, get_mid, set_mid, dPlaces, dConts, g4, g5, g7, g9, g10]
  · rintro S ⟨j, rfl⟩
    have hi : (M.val (eCharts ch)).items = some (ch.map eChart) := rfl
    simp [get_mid, set_mid, hi]
    apply floop_pre (I := fun pre S => ∃ j k l m q, S = ⟨[some (.val (.obj ob.length)), some (.val (eSlots sl)), some (.val (eCharts ch)), j, k, l, m, q], ob ++ [⟨k_House, [(a_slots, .val (eSlots sl)), (a_charts, .val (eCharts ch)), (a__places, dPlaces sl), (a__contents, dConts sl), (a__nodes, dTables pre), (a__firsts, dFirsts pre), (a__backs, dBacks pre)]⟩, oLinks sl ch]⟩)
    · exact ⟨_, _, _, _, _, rfl⟩
    · rintro pre x r S e ⟨j, k, l, m, q, rfl⟩
      have hm : x ∈ ch := by rw [e]; simp
      have hc := H.co x hm
      have hc6 := H.c6
      have g6 := pre_len e
      have g7 : pre.length < 16777216 := by omega
      have g2 := fresh (f := fun c : Chart => c.1) H.cd e
      have b1 := put_new (fun c : Chart => c.1) (fun c => M.val (.dct (c.2.map fun d => (D.str d.name, d.enc)))) g2
      have b2 := put_new (fun c : Chart => c.1) (fun c => M.val (.str (firstName c.2))) g2
      have b3 := put_new (fun c : Chart => c.1) (fun c => M.val (eWs (backsOf c.2))) g2
      simp [forBody, eChart]
      simp only [post_then]
      apply floop_pre (I := fun pr S => ∃ q, S = ⟨[some (.val (.obj ob.length)), some (.val (eSlots sl)), some (.val (eCharts ch)), j, some (.val (.str x.1)), some (.val (.tup (x.2.map Nd.enc))), some (.dct (pr.map fun d => (D.str d.name, .val d.enc))), q], ob ++ [⟨k_House, [(a_slots, .val (eSlots sl)), (a_charts, .val (eCharts ch)), (a__places, dPlaces sl), (a__contents, dConts sl), (a__nodes, dTables pre), (a__firsts, dFirsts pre), (a__backs, dBacks pre)]⟩, oLinks sl ch]⟩)
      · exact ⟨_, rfl⟩
      · rintro pr d r' S e' ⟨q, rfl⟩
        have a1 := put_new Nd.name (fun d => M.val d.enc) (fresh hc.nd e')
        have a2 := pre_len e'
        have a3 : pr.length < 16777216 := by have := hc.l4; omega
        have a4 : (M.val d.enc).at_ (.int 1) = some (.val (.str d.name)) := by cases d <;> simp [Nd.enc, Nd.name]
        simp [forBody, a4, a1, a3]
      · rintro S ⟨q, rfl⟩
        obtain ⟨d0, rest, hx2⟩ : ∃ d0 rest, x.2 = d0 :: rest := by
          cases q : x.2 with
          | nil => have := hc.l1; rw [q] at this; cases this
          | cons d0 rest => exact ⟨_, _, rfl⟩
        have a4 : (M.val d0.enc).at_ (.int 1) = some (.val (.str d0.name)) := by cases d0 <;> simp [Nd.enc, Nd.name]
        have a5 : ((M.val (.tup (x.2.map Nd.enc))).at_ (.int 0)) = some (.val d0.enc) := by rw [hx2]; simp
        have a6 : M.fzk (x.2.map fun d => (D.str d.name, .val d.enc)) = x.2.map fun d => (D.str d.name, d.enc) := by
          rw [M.fzk_eq, List.map_map]; rfl
        have a7 : (M.val (.str d0.name)) = .val (.str (firstName x.2)) := by rw [hx2]; rfl
        have a8 : (M.dct (x.2.map fun d => (D.str d.name, .val d.enc))).fz = .dct (x.2.map fun d => (D.str d.name, d.enc)) := by
          show D.dct (M.fzk _) = _; rw [a6]
        have bw := back_words_ok hC (n + 6) hc.l4
        simp [dTables, dFirsts, dBacks, get_mid, set_mid, a8, b1, g7, a5, a4]
        simp [a7, b2, get_mid, set_mid, g7, bw]
        simp [b3, get_mid, set_mid, g7]

    · rintro S ⟨j, k, l, m, q, rfl⟩
      simp [oHouse]
end Tk.K61
/- Ms -/
set_option Elab.async false
set_option linter.all false
set_option maxRecDepth 100000
namespace Tk.K61
open Tk Tk.WP Tk.Md
@[simp] theorem oHouse_cls {sl : List Slot} {ch : List Chart} : (oHouse sl ch).cls = 1 := nrfl
@[simp] theorem oHouse_fs {sl : List Slot} {ch : List Chart} : (oHouse sl ch).fs = [(2, .val (eSlots sl)), (13, .val (eCharts ch)), (12, dPlaces sl), (11, dConts sl), (10, dTables ch), (9, dFirsts ch), (8, dBacks ch)] := nrfl
/-- an end with the outcome becomes a hand-over -/
def sewnNd (o : D) (c : S) : Nd → Nd
  | .fin n w => if eqP (.str w) o = true then .hand n c [] else .fin n w
  | d => d
def sewnCh (o : D) (c : S) (x : Chart) : Chart := (x.1, x.2.map (sewnNd o c))
def mainName (ch : List Chart) : S := (ch.map (·.1)).headD []
def firstIn (a b : List S) : Option S := b.find? fun x => decide (x ∈ a)
variable {C : Nat → CallFn} (hC : Lvl PG C)
include hC
theorem sewn_node_ok (n : Nat) {o : D} (ho : plnB 64 o = true) {c : S} {d : Nd} (hd : ∀ n w, d = .fin n w → strB w = true) (ob : List Ob) : C (n + 2) f_sewn_node [d.enc, o, .str c] ob = .ok (.val (sewnNd o c d).enc) ob := by
  rw [hC.eq (Fn := c_sewn_node) rfl]
  cases d with
  | fin n w =>
    have h1 : eqD (.str w) o = some (eqP (.str w) o) := eqD_pln (by simpa [plnB] using hd n w rfl) ho
    simp [c_sewn_node, Nd.enc, h1, sewnNd]
    by_cases h2 : eqP (.str w) o = true
    · simp [h2, eArms]
    · simp [h2]
  | _ => simp [c_sewn_node, Nd.enc, sewnNd]
theorem need_different_ok (n : Nat) {a b : List S} (ob : List Ob) : C (n + 2) f_need_different [eWs a, eWs b] ob = match firstIn a b with | some x => .exc k_BadName [.str x] ob | none => .ok (.val .non) ob := by
  rw [hC.eq (Fn := c_need_different) rfl]
  have hi : (M.val (eWs b)).items = some (b.map .str) := rfl
  simp [c_need_different, hi]
  apply outR_of
  apply floop_post (I := fun r S => (∃ j, S = ⟨[some (.val (eWs a)), some (.val (eWs b)), j], ob⟩) ∧ firstIn a b = firstIn a r)
  · exact ⟨⟨_, rfl⟩, rfl⟩
  · rintro x r S ⟨⟨j, rfl⟩, h⟩
    have h1 : doIn (.val (.str x)) (.val (eWs a)) = some (decide (x ∈ a)) := in_tup_strs
    by_cases h2 : x ∈ a
    · have : firstIn a b = some x := by rw [h]; simp [firstIn, h2]
      simp [forBody, h1, h2, this]
    · have : firstIn a b = firstIn a r := by rw [h]; simp [firstIn, h2]
      simp [forBody, h1, h2, this]
  · rintro S ⟨⟨j, rfl⟩, h⟩
    have : firstIn a b = none := by rw [h]; rfl
    simp [this]
section
variable {sl : List Slot} {ch : List Chart} {ob : List Ob} {i : Nat} (ho : ob[i]? = some (oHouse sl ch))
include ho
theorem House_main_ok (n : Nat) (h : 1 ≤ ch.length) : C (n + 2) f_House_main [.obj i] ob = .ok (.val (.str (mainName ch))) ob := by
  rw [hC.eq (Fn := c_House_main) rfl]
  cases ch with
  | nil => cases h
  | cons c ch => simp [c_House_main, ho, eCharts, eChart, mainName]
theorem House_slot_names_ok (n : Nat) (h : sl.length ≤ 1000) : C (n + 2) f_House_slot_names [.obj i] ob = .ok (.val (eWs (sl.map (·.1)))) ob := by
  rw [hC.eq (Fn := c_House_slot_names) rfl]
  have hi : (M.val (eSlots sl)).items = some (sl.map eSlot) := rfl
  have hl : sl.length ≤ 16777216 := by omega
  simp [c_House_slot_names, ho, hi]
  rw [cloop_map (g := fun s : Slot => .val (.str s.1))]
  · simp [hl, eWs]
  · intro t ht
    simp [compBody, eSlot]
theorem House_chart_names_ok (n : Nat) (h : ch.length ≤ 1000) : C (n + 2) f_House_chart_names [.obj i] ob = .ok (.val (eWs (ch.map (·.1)))) ob := by
  rw [hC.eq (Fn := c_House_chart_names) rfl]
  have hi : (M.val (eCharts ch)).items = some (ch.map eChart) := rfl
  have hl : ch.length ≤ 16777216 := by omega
  simp [c_House_chart_names, ho, hi]
  rw [cloop_map (g := fun s : Chart => .val (.str s.1))]
  · simp [hl, eWs]
  · intro t ht
    simp [compBody, eChart]
end
theorem check_slots_many (n : Nat) {l : List Slot} (hl : 4 < l.length) (ob : List Ob) : C (n + 4) f_check_slots [eSlots l] ob = .exc k_BadHouse [.str [115, 108, 111, 116, 115], .tup []] ob := by
  rw [hC.eq (Fn := c_check_slots) rfl]
  have g1 : (4 : Int) < (l.length : Int) := by omega
  simp [c_check_slots, isTy, eSlots, v_MAX_SLOTS, g1]
theorem check_charts_many (n : Nat) {l : List Chart} (hl : 6 < l.length) (ob : List Ob) : C (n + 4) f_check_charts [eCharts l] ob = .exc k_BadHouse [.str [99, 104, 97, 114, 116, 115], .tup []] ob := by
  rw [hC.eq (Fn := c_check_charts) rfl]
  have g0 : ¬ (l.length : Int) < 1 := by omega
  have g1 : (6 : Int) < (l.length : Int) := by omega
  simp [c_check_charts, isTy, eCharts, v_MAX_CHARTS, g0, g1]
theorem House_init_slots (n : Nat) {sl : List Slot} {ch : List Chart} (h : 4 < sl.length) (i : Nat) (ob : List Ob) : C (n + 9) f_House___init__ [.obj i, eSlots sl, eCharts ch] ob = .exc k_BadHouse [.str [115, 108, 111, 116, 115], .tup []] ob := by
  rw [hC.eq (Fn := c_House___init__) rfl]
  simp [c_House___init__, check_slots_many hC (n + 4) h]
theorem House_init_charts (n : Nat) {sl : List Slot} {ch : List Chart} (h4 : sl.length ≤ 4) (hs : ∀ s ∈ sl, SlotOk s) (hd : (sl.map (·.1)).Nodup) (h : 6 < ch.length) (i : Nat) (ob : List Ob) : C (n + 9) f_House___init__ [.obj i, eSlots sl, eCharts ch] ob = .exc k_BadHouse [.str [99, 104, 97, 114, 116, 115], .tup []] ob := by
  rw [hC.eq (Fn := c_House___init__) rfl]
  simp [c_House___init__, check_slots_ok hC (n + 4) h4 hs hd, check_charts_many hC (n + 4) h]
omit hC in
theorem sewn_name (o : D) (c : S) (d : Nd) : (sewnNd o c d).name = d.name := by
  cases d with
  | fin n w =>
    show (if eqP (.str w) o = true then Nd.hand n c [] else Nd.fin n w).name = n
    by_cases h : eqP (.str w) o = true
    · rw [if_pos h]; rfl
    · rw [if_neg h]; rfl
  | _ => rfl
omit hC in
theorem sewn_names (o : D) (c : S) (l : List Nd) : (l.map (sewnNd o c)).map Nd.name = l.map Nd.name := by
  rw [List.map_map]; exact List.map_congr_left fun d _ => sewn_name o c d
omit hC in
theorem sewn_keys (o : D) (c : S) : ∀ (l : List Nd) (ks : List S), backKeys ks (l.map (sewnNd o c)) = backKeys ks l
  | [], _ => rfl
  | d :: l, ks => by
    cases d with
    | fin n w =>
      simp only [List.map_cons, sewnNd]
      split <;> exact sewn_keys o c l ks
    | back n w => exact sewn_keys o c l _
    | _ => exact sewn_keys o c l ks
omit hC in
theorem sewn_backs (o : D) (c : S) (l : List Nd) : backsOf (l.map (sewnNd o c)) = backsOf l := by
  unfold backsOf; rw [sewn_keys]
omit hC in
theorem firstIn_none {a b : List S} (h : firstIn a b = none) : ∀ x ∈ b, x ∉ a := fun x hx ha => by
  have := List.find?_eq_none.mp h x hx
  simp at this
  exact this ha
omit hC in
theorem nodup_app {a b : List S} (ha : a.Nodup) (hb : b.Nodup) (h : ∀ x ∈ b, x ∉ a) : (a ++ b).Nodup :=
  List.nodup_append.mpr ⟨ha, hb, fun x hx y hy e => h y hy (e ▸ hx)⟩
omit hC in
/-- the sewn slots and charts make a house -/
theorem sewn_ok {sl1 sl2 : List Slot} {ch1 ch2 : List Chart} {o : D} (H1 : HouseOk C sl1 ch1) (H2 : HouseOk C sl2 ch2) (hs : firstIn (sl1.map (·.1)) (sl2.map (·.1)) = none) (hc : firstIn (ch1.map (·.1)) (ch2.map (·.1)) = none)
    (h4 : sl1.length + sl2.length ≤ 4) (h6 : ch1.length + ch2.length ≤ 6) : HouseOk C (sl1 ++ sl2) (ch1.map (sewnCh o (mainName ch2)) ++ ch2) := by
  obtain ⟨m, ch2', e2⟩ : ∃ m r, ch2 = m :: r := by
    cases q : ch2 with
    | nil => have := H2.c1; rw [q] at this; cases this
    | cons m r => exact ⟨_, _, rfl⟩
  have hm : mainName ch2 = m.1 := by rw [e2]; rfl
  have hmc : ChartOk C m := H2.co m (by rw [e2]; simp)
  have hmb : backsOf m.2 = [] := by
    have : backKeys [] m.2 = [] := backKeys_none fun d hd n w e => by
      have := H2.lk 0 m (by rw [e2]; rfl) d hd
      rw [e] at this
      cases this with
      | back h => cases h
    unfold backsOf; rw [this]; rfl
  have names : (ch1.map (sewnCh o (mainName ch2)) ++ ch2).map (·.1) = ch1.map (·.1) ++ ch2.map (·.1) := by
    rw [List.map_append, List.map_map]; rfl
  refine ⟨by rw [List.length_append]; exact h4, fun s hs' => ?_, ?_, by rw [List.length_append]; have := H2.c1; omega, by rw [List.length_append, List.length_map]; exact h6, fun c hc' => ?_, ?_, ?_⟩
  · rcases List.mem_append.mp hs' with h | h
    · exact H1.so s h
    · exact H2.so s h
  · rw [List.map_append]
    exact nodup_app H1.sd H2.sd (firstIn_none hs)
  · rcases List.mem_append.mp hc' with h | h
    · obtain ⟨x, hx, rfl⟩ := List.mem_map.mp h
      have cx := H1.co x hx
      refine ⟨cx.nm, fun d hd => ?_, by show ((x.2.map _).map _).Nodup; rw [sewn_names]; exact cx.nd, by show 1 ≤ (x.2.map _).length; rw [List.length_map]; exact cx.l1, by show (x.2.map _).length ≤ 40; rw [List.length_map]; exact cx.l4⟩
      obtain ⟨e, he, rfl⟩ := List.mem_map.mp hd
      have ne := cx.ns e he
      cases ne with
      | fin h1 h2 =>
        simp only [sewnNd]
        split
        · exact .hand h1 (by rw [hm]; exact hmc.nm) (by simp) (by simp) (by simp)
        · exact .fin h1 h2
      | say h1 h2 h3 => exact .say h1 h2 h3
      | go h1 h2 => exact .go h1 h2
      | set h1 h2 h3 h4 => exact .set h1 h2 h3 h4
      | test h1 h2 h3 h4 h5 => exact .test h1 h2 h3 h4 h5
      | ask h1 h2 h3 h4 h5 h6 h7 => exact .ask h1 h2 h3 h4 h5 h6 h7
      | pick h1 h2 h3 h4 h5 => exact .pick h1 h2 h3 h4 h5
      | hand h1 h2 h3 h4 h5 => exact .hand h1 h2 h3 h4 h5
      | back h1 h2 => exact .back h1 h2
    · exact H2.co c h
  · rw [names]
    exact nodup_app H1.cd H2.cd (firstIn_none hc)
  · intro j c hj d hd
    by_cases hlt : j < (ch1.map (sewnCh o (mainName ch2))).length
    · rw [List.getElem?_append_left hlt, List.getElem?_map] at hj
      obtain ⟨x, hx, rfl⟩ := Option.map_eq_some_iff.mp hj
      obtain ⟨e, he, rfl⟩ := List.mem_map.mp hd
      have le := H1.lk j x hx e he
      have hnm : (sewnCh o (mainName ch2) x).2.map Nd.name = x.2.map Nd.name := sewn_names o _ x.2
      rw [hnm]
      cases le with
      | fin =>
        simp only [sewnNd]
        split
        · refine .hand (nodes := m.2) (List.mem_append_right _ ?_) (by rw [hmb]; rfl) (by simp) (by simp) (by simp)
          rw [hm, e2]; exact List.mem_cons_self
        · exact .fin
      | say h1 h2 h3 => exact .say h1 (fun s hs => by rw [List.map_append]; exact List.mem_append_left _ (h2 s hs)) h3
      | go h1 => exact .go h1
      | set h1 h2 h3 => exact .set (List.mem_append_left _ h1) h2 h3
      | test h1 h2 h3 h4 => exact .test (List.mem_append_left _ h1) h2 h3 h4
      | ask h1 h2 h3 h4 => exact .ask (by rw [List.map_append]; exact List.mem_append_left _ h1) h2 h3 (fun s hs => by rw [List.map_append]; exact List.mem_append_left _ (h4 s hs))
      | pick h1 h2 => exact .pick h1 h2
      | @hand n' c' arms nodes h1 h2 h3 h4 h5 =>
        exact .hand (nodes := nodes.map (sewnNd o (mainName ch2))) (List.mem_append_left _ (List.mem_map.mpr ⟨_, h1, rfl⟩)) (by rw [sewn_backs]; exact h2) h3 h4 h5
      | back h1 => exact .back h1
    · have hge : (ch1.map (sewnCh o (mainName ch2))).length ≤ j := Nat.le_of_not_lt hlt
      rw [List.getElem?_append_right hge] at hj
      have le := H2.lk _ c hj d hd
      have hj0 : (j == 0) = false := by
        have := H1.c1
        rw [List.length_map] at hge
        rw [beq_eq_false_iff_ne]; omega
      rw [hj0]
      cases le with
      | fin => exact .fin
      | say h1 h2 h3 => exact .say h1 (fun s hs => by rw [List.map_append]; exact List.mem_append_right _ (h2 s hs)) h3
      | go h1 => exact .go h1
      | set h1 h2 h3 => exact .set (List.mem_append_right _ h1) h2 h3
      | test h1 h2 h3 h4 => exact .test (List.mem_append_right _ h1) h2 h3 h4
      | ask h1 h2 h3 h4 => exact .ask (by rw [List.map_append]; exact List.mem_append_right _ h1) h2 h3 (fun s hs => by rw [List.map_append]; exact List.mem_append_right _ (h4 s hs))
      | pick h1 h2 => exact .pick h1 h2
      | hand h1 h2 h3 h4 h5 => exact .hand (List.mem_append_right _ h1) h2 h3 h4 h5
      | back h1 => exact .back rfl
/-- what sew does -/
def sewR (sl1 : List Slot) (ch1 : List Chart) (o : D) (sl2 : List Slot) (ch2 : List Chart) (ob : List Ob) : Rc :=
  match firstIn (sl1.map (·.1)) (sl2.map (·.1)) with
  | some x => .exc k_BadName [.str x] ob
  | none => match firstIn (ch1.map (·.1)) (ch2.map (·.1)) with
    | some x => .exc k_BadName [.str x] ob
    | none => if 4 < sl1.length + sl2.length then .exc k_BadHouse [.str [115, 108, 111, 116, 115], .tup []] (ob ++ [⟨k_House, []⟩])
      else if 6 < ch1.length + ch2.length then .exc k_BadHouse [.str [99, 104, 97, 114, 116, 115], .tup []] (ob ++ [⟨k_House, []⟩])
      else .ok (.val (.obj ob.length)) (ob ++ [oHouse (sl1 ++ sl2) (ch1.map (sewnCh o (mainName ch2)) ++ ch2), oLinks (sl1 ++ sl2) (ch1.map (sewnCh o (mainName ch2)) ++ ch2)])
theorem sew_ok (n : Nat) {sl1 sl2 : List Slot} {ch1 ch2 : List Chart} {o : D} (ho : plnB 64 o = true) (H1 : HouseOk C sl1 ch1) (H2 : HouseOk C sl2 ch2) {i j : Nat} {ob : List Ob} (hi : ob[i]? = some (oHouse sl1 ch1)) (hj : ob[j]? = some (oHouse sl2 ch2)) :
    C (n + 11) f_sew [.obj i, o, .obj j] ob = sewR sl1 ch1 o sl2 ch2 ob := by
  rw [hC.eq (Fn := c_sew) rfl]
  have s1 := H1.s4
  have s2 := H2.s4
  have s3 := H1.c6
  have s4 := H2.c6
  have a1 := House_slot_names_ok hC hi (n + 8) (by omega)
  have a2 := House_slot_names_ok hC hj (n + 8) (by omega)
  have a3 := House_chart_names_ok hC hi (n + 8) (by omega)
  have a4 := House_chart_names_ok hC hj (n + 8) (by omega)
  have b1 := need_different_ok hC (n + 8) (a := sl1.map (·.1)) (b := sl2.map (·.1)) ob
  have b2 := need_different_ok hC (n + 8) (a := ch1.map (·.1)) (b := ch2.map (·.1)) ob
  unfold sewR
  cases q1 : firstIn (sl1.map (·.1)) (sl2.map (·.1)) with
  | some x =>
    rw [q1] at b1
    simp [c_sew, hi, hj, a1, a2, b1]
  | none =>
  cases q2 : firstIn (ch1.map (·.1)) (ch2.map (·.1)) with
  | some x =>
    rw [q1] at b1
    rw [q2] at b2
    simp [c_sew, hi, hj, a1, a2, b1, a3, a4, b2]
  | none =>
  rw [q1] at b1
  rw [q2] at b2
  have hit : (M.val (eCharts ch1)).items = some (ch1.map eChart) := rfl
  have mn := House_main_ok hC hj (n + 8) H2.c1
  have mn' := House_main_ok hC hj (n + 7) H2.c1
  simp [c_sew, hi, hj, a1, a2, b1, a3, a4, b2, hit]
  apply outR_of
  try simp only [post_then]
  apply floop_pre (I := fun pre S => ∃ k l m, S = ⟨[some (.val (.obj i)), some (.val o), some (.val (.obj j)), some (.lst (pre.map fun c => .val (eChart (sewnCh o (mainName ch2) c)))), k, l, m], ob⟩)
  · exact ⟨_, _, _, rfl⟩
  · rintro pre x r S e ⟨k, l, m, rfl⟩
    have hx := H1.co x (by rw [e]; simp)
    have g1 := pre_len e
    have g2 : pre.length < 16777216 := by omega
    have g3 : x.2.length ≤ 16777216 := by have := hx.l4; omega
    simp [forBody, eChart]
    rw [cloop_map (g := fun d : Nd => .val (sewnNd o (mainName ch2) d).enc)]
    · simp [g2, g3, sewnCh]
    · intro d hd
      have := sewn_node_ok hC (n + 8) ho (c := mainName ch2) (d := d) (fun n w e => by
        have := hx.ns d hd
        rw [e] at this
        cases this with
        | fin h1 h2 => exact isWord_strB h2) ob
      simp [compBody, hj, mn, this]
  · rintro S ⟨k, l, m, rfl⟩
    have g1 : doAdd (.val (eSlots sl1)) (.val (eSlots sl2)) = some (.val (eSlots (sl1 ++ sl2))) := by
      simp [doAdd, M.asInt, M.asStr, eSlots]
      omega
    have g2 : doAdd (.val (.tup (ch1.map fun c => eChart (sewnCh o (mainName ch2) c)))) (.val (eCharts ch2)) = some (.val (eCharts (ch1.map (sewnCh o (mainName ch2)) ++ ch2))) := by
      simp [doAdd, M.asInt, M.asStr, eCharts]
      omega
    have g3 : ((M.val (eCharts ch2)).only) = some (.val (eCharts ch2)) := rfl
    simp [hi, hj, g1, g2]
    by_cases h4 : 4 < sl1.length + sl2.length
    · rw [House_init_slots hC n (by rw [List.length_append]; exact h4)]
      simp [h4]
    · have sd : ((sl1 ++ sl2).map (·.1)).Nodup := by
        rw [List.map_append]; exact nodup_app H1.sd H2.sd (firstIn_none q1)
      have so : ∀ s ∈ sl1 ++ sl2, SlotOk s := fun s hs => (List.mem_append.mp hs).elim (H1.so s) (H2.so s)
      by_cases h6 : 6 < ch1.length + ch2.length
      · rw [House_init_charts hC n (by rw [List.length_append]; omega) so sd (by rw [List.length_append, List.length_map]; exact h6)]
        simp [h4, h6]
      · have := House_init_ok hC n (sewn_ok (o := o) H1 H2 q1 q2 (by omega) (by omega)) ob
        simp only [k_House] at this
        rw [this]
        simp [h4, h6]
end Tk.K61
/- Ml -/
set_option Elab.async false
set_option linter.all false
set_option maxRecDepth 100000
namespace Tk.K61
open Tk Tk.WP Tk.Md
mutual
/-- texts and tuples, nested at most n deep -/
def stB : Nat → D → Bool
  | _, .str _ => true
  | n + 1, .tup xs => decide (xs.length ≤ 1000) && stBs n xs
  | _, _ => false
def stBs : Nat → List D → Bool
  | _, [] => true
  | n, x :: xs => stB n x && stBs n xs
end
theorem stBs_mem : ∀ {n : Nat} {xs : List D}, stBs n xs = true ↔ ∀ x ∈ xs, stB n x = true
  | n, [] => by simp [stBs]
  | n, x :: xs => by simp [stBs, stBs_mem (xs := xs)]
theorem stB_mono : ∀ (n : Nat) (d : D), stB n d = true → stB (n + 1) d = true
  | n, .str _, _ => by simp [stB]
  | n + 1, .tup xs, h => by
    simp only [stB, Bool.and_eq_true, stBs_mem] at h ⊢
    exact ⟨h.1, fun x hx => stB_mono n x (h.2 x hx)⟩
  | 0, .tup _, h => by simp [stB] at h
  | n, .non, h => by cases n <;> simp [stB] at h
  | n, .bl _, h => by cases n <;> simp [stB] at h
  | n, .int _, h => by cases n <;> simp [stB] at h
  | n, .lst _, h => by cases n <;> simp [stB] at h
  | n, .dct _, h => by cases n <;> simp [stB] at h
  | n, .obj _, h => by cases n <;> simp [stB] at h
  | n, .scr _, h => by cases n <;> simp [stB] at h
theorem sup_eq (a b : Nat) : PG.sup a b = supT.elem (a, b) := nrfl
variable {C : Nat → CallFn} (hC : Lvl PG C)
include hC
theorem same_refl : ∀ (k n : Nat) {d : D}, stB k d = true → ∀ ob, C (n + k + 2) f__law_same [d, d] ob = .ok (.val (.bl true)) ob
  | k, n, .str s, _, ob => by
    rw [hC.eq (Fn := c__law_same) rfl]
    simp [c__law_same, isTy, doIs, M.isNon, M.isBl]
  | k + 1, n, .tup xs, h, ob => by
    simp only [stB, Bool.and_eq_true, stBs_mem, decide_eq_true_eq] at h
    rw [hC.eq (Fn := c__law_same) rfl]
    simp [c__law_same, isTy, doIs, M.isNon, M.isBl]
    rw [rangeL_nat (by omega)]
    simp
    apply outR_of
    try simp only [post_then]
    apply floop_rng xs (I := fun _ S => ∃ j, S = ⟨[some (.val (.tup xs)), some (.val (.tup xs)), j], ob⟩)
    · exact ⟨_, rfl⟩
    · rintro pre x r S e ⟨j, rfl⟩
      have h1 : xs[pre.length]? = some x := by rw [e]; simp
      have h2 := same_refl k n (h.2 x (by rw [e]; simp)) ob
      simp only [Nat.add_assoc] at h2
      simp only [Nat.add_assoc]
      simp [forBody, at_tup_k h1]
      rw [show n + (k + (1 + 1)) = n + (k + 2) from rfl, h2]
      simp
    · rintro S ⟨j, rfl⟩
      simp
  | 0, _, .tup _, h, _ => by simp [stB] at h
  | k, _, .non, h, _ => by cases k <;> simp [stB] at h
  | k, _, .bl _, h, _ => by cases k <;> simp [stB] at h
  | k, _, .int _, h, _ => by cases k <;> simp [stB] at h
  | k, _, .lst _, h, _ => by cases k <;> simp [stB] at h
  | k, _, .dct _, h, _ => by cases k <;> simp [stB] at h
  | k, _, .obj _, h, _ => by cases k <;> simp [stB] at h
  | k, _, .scr _, h, _ => by cases k <;> simp [stB] at h
omit hC in
theorem st_ws {n : Nat} {l : List S} (h : l.length ≤ 1000) : stB (n + 1) (eWs l) = true := by
  simp only [eWs, stB, Bool.and_eq_true, decide_eq_true_eq, List.length_map, stBs_mem]
  refine ⟨h, fun x hx => ?_⟩
  obtain ⟨s, _, rfl⟩ := List.mem_map.mp hx
  simp [stB]
omit hC in
theorem st_arms {n : Nat} {l : List (S × S)} (h : l.length ≤ 1000) : stB (n + 2) (eArms l) = true := by
  simp only [eArms, stB, Bool.and_eq_true, decide_eq_true_eq, List.length_map, stBs_mem]
  refine ⟨h, fun x hx => ?_⟩
  obtain ⟨s, _, rfl⟩ := List.mem_map.mp hx
  simp [eArm, stB, stBs]
omit hC in
theorem st_node {d : Nd} (h : NdOk C d) : stB 3 d.enc = true := by
  cases h with
  | @ask n s h m fx h1 h2 h3 h4 h5 h6 h7 => simp [Nd.enc, stB, stBs, st_ws (n := 1) (show fx.length ≤ 1000 by omega)]
  | @pick n arms h1 h2 h3 h4 h5 => simp [Nd.enc, stB, stBs, st_arms (n := 0) (show arms.length ≤ 1000 by omega)]
  | @hand n c arms h1 h2 h3 h4 h5 => simp [Nd.enc, stB, stBs, st_arms (n := 0) (show arms.length ≤ 1000 by omega)]
  | _ => simp [Nd.enc, stB, stBs]
omit hC in
theorem st_slots {sl : List Slot} (h : sl.length ≤ 1000) (hs : ∀ s ∈ sl, SlotOk s) : stB 3 (eSlots sl) = true := by
  simp only [eSlots, stB, Bool.and_eq_true, decide_eq_true_eq, List.length_map, stBs_mem]
  refine ⟨h, fun x hx => ?_⟩
  obtain ⟨s, h1, rfl⟩ := List.mem_map.mp hx
  have := (hs s h1).l4
  simp [eSlot, stB, stBs, st_ws (n := 0) (show s.2.length ≤ 1000 by omega)]
omit hC in
theorem st_charts {ch : List Chart} (h : ch.length ≤ 1000) (hs : ∀ c ∈ ch, ChartOk C c) : stB 6 (eCharts ch) = true := by
  simp only [eCharts, stB, Bool.and_eq_true, decide_eq_true_eq, List.length_map, stBs_mem]
  refine ⟨h, fun x hx => ?_⟩
  obtain ⟨c, h1, rfl⟩ := List.mem_map.mp hx
  have := (hs c h1).l4
  simp only [eChart, stB, stBs, Bool.and_eq_true, decide_eq_true_eq, List.length_map, stBs_mem]
  refine ⟨by simp, trivial, ⟨by omega, fun x hx => ?_⟩, trivial⟩
  obtain ⟨d, h2, rfl⟩ := List.mem_map.mp hx
  exact st_node ((hs c h1).ns d h2)
def ePair (sl : List Slot) (ch : List Chart) : D := .tup [eSlots sl, eCharts ch]
theorem law_sewn_ok (n : Nat) {sl1 sl2 : List Slot} {ch1 ch2 : List Chart} {o : D} (ho : plnB 64 o = true) (H1 : HouseOk C sl1 ch1) (H2 : HouseOk C sl2 ch2) (ob : List Ob) :
    C (n + 2) f__law_sewn [ePair sl1 ch1, o, ePair sl2 ch2] ob = .ok (.val (ePair (sl1 ++ sl2) (ch1.map (sewnCh o (mainName ch2)) ++ ch2))) ob := by
  rw [hC.eq (Fn := c__law_sewn) rfl]
  have hit : (M.val (eCharts ch1)).items = some (ch1.map eChart) := rfl
  have c6 := H1.c6
  have c6' := H2.c6
  have s4 := H1.s4
  have s4' := H2.s4
  obtain ⟨m, ch2', e2⟩ : ∃ m r, ch2 = m :: r := by
    cases q : ch2 with
    | nil => have := H2.c1; rw [q] at this; cases this
    | cons m r => exact ⟨_, _, rfl⟩
  have hm0 : (M.val (eCharts ch2)).at_ (.int 0) = some (.val (eChart m)) := by rw [e2]; simp [eCharts]
  have hm1 : (M.val (eChart m)).at_ (.int 0) = some (.val (.str (mainName ch2))) := by rw [e2]; simp [eChart, mainName]
  simp [c__law_sewn, ePair, hit]
  apply outR_of
  try simp only [post_then]
  apply floop_pre (I := fun pre S => ∃ k l q, S = ⟨[some (.val (ePair sl1 ch1)), some (.val o), some (.val (ePair sl2 ch2)), some (.lst (pre.map fun c => .val (eChart (sewnCh o (mainName ch2) c)))), k, l, q], ob⟩)
  · exact ⟨_, _, _, rfl⟩
  · rintro pre x r S e ⟨k, l, q, rfl⟩
    have hx := H1.co x (by rw [e]; simp)
    have g1 := pre_len e
    have g2 : pre.length < 16777216 := by omega
    simp [forBody, eChart]
    simp only [post_then]
    apply floop_pre (I := fun pr S => ∃ q, S = ⟨[some (.val (ePair sl1 ch1)), some (.val o), some (.val (ePair sl2 ch2)), some (.lst (pre.map fun c => .val (eChart (sewnCh o (mainName ch2) c)))), some (.val (eChart x)), some (.lst (pr.map fun d => .val (sewnNd o (mainName ch2) d).enc)), q], ob⟩)
    · exact ⟨_, rfl⟩
    · rintro pr d r' S e' ⟨q, rfl⟩
      have g3 := pre_len e'
      have g4 : pr.length < 16777216 := by have := hx.l4; omega
      have hd := hx.ns d (by rw [e']; simp)
      cases hd with
      | @fin n w h1 h2 =>
        have h1 : eqD (.str w) o = some (eqP (.str w) o) := eqD_pln (by simpa [plnB] using isWord_strB h2) ho
        by_cases h3 : eqP (.str w) o = true
        · simp [forBody, Nd.enc, h1, h3, sewnNd, ePair, hm0, hm1, g4, eArms]
        · simp [forBody, Nd.enc, h1, h3, sewnNd, g4]
      | _ => simp [forBody, Nd.enc, sewnNd, g4]
    · rintro S ⟨q, rfl⟩
      simp [eChart, g2, sewnCh]
  · rintro S ⟨k, l, q, rfl⟩
    have g1 : doAdd (.val (eSlots sl1)) (.val (eSlots sl2)) = some (.val (eSlots (sl1 ++ sl2))) := by
      simp [doAdd, M.asInt, M.asStr, eSlots]
      omega
    have g2 : doAdd (.val (.tup (ch1.map fun c => eChart (sewnCh o (mainName ch2) c)))) (.val (eCharts ch2)) = some (.val (eCharts (ch1.map (sewnCh o (mainName ch2)) ++ ch2))) := by
      simp [doAdd, M.asInt, M.asStr, eCharts]
      omega
    simp [ePair, g1, g2]
/-- what is due -/
def dueD (sl1 : List Slot) (ch1 : List Chart) (o : D) (sl2 : List Slot) (ch2 : List Chart) : D :=
  match firstIn (sl1.map (·.1)) (sl2.map (·.1)) with
  | some x => .tup [.str [110, 97, 109, 101], .str x]
  | none => match firstIn (ch1.map (·.1)) (ch2.map (·.1)) with
    | some x => .tup [.str [110, 97, 109, 101], .str x]
    | none => if 4 < sl1.length + sl2.length then .tup [.str [102, 97, 117, 108, 116], .str [115, 108, 111, 116, 115], .tup []]
      else if 6 < ch1.length + ch2.length then .tup [.str [102, 97, 117, 108, 116], .str [99, 104, 97, 114, 116, 115], .tup []]
      else .tup [.str [115, 101, 119, 110], eSlots (sl1 ++ sl2), eCharts (ch1.map (sewnCh o (mainName ch2)) ++ ch2)]
theorem law_due_ok (n : Nat) {sl1 sl2 : List Slot} {ch1 ch2 : List Chart} {o : D} (ho : plnB 64 o = true) (H1 : HouseOk C sl1 ch1) (H2 : HouseOk C sl2 ch2) (ob : List Ob) :
    C (n + 3) f__law_due [ePair sl1 ch1, o, ePair sl2 ch2] ob = .ok (.val (dueD sl1 ch1 o sl2 ch2)) ob := by
  rw [hC.eq (Fn := c__law_due) rfl]
  have i1 : (M.val (eSlots sl1)).items = some (sl1.map eSlot) := rfl
  have i2 : (M.val (eSlots sl2)).items = some (sl2.map eSlot) := rfl
  have i3 : (M.val (eCharts ch1)).items = some (ch1.map eChart) := rfl
  have i4 : (M.val (eCharts ch2)).items = some (ch2.map eChart) := rfl
  have l1 : doLen (.val (eSlots sl1)) = some (.val (.int sl1.length)) := by simp [eSlots]
  have l2 : doLen (.val (eSlots sl2)) = some (.val (.int sl2.length)) := by simp [eSlots]
  have l3 : doLen (.val (eCharts ch1)) = some (.val (.int ch1.length)) := by simp [eCharts]
  have l4 : doLen (.val (eCharts ch2)) = some (.val (.int ch2.length)) := by simp [eCharts]
  have s1 : sl1.length ≤ 16777216 := by have := H1.s4; omega
  have c1 : ch1.length ≤ 16777216 := by have := H1.c6; omega
  have hs := law_sewn_ok hC n ho H1 H2 ob
  simp [c__law_due, ePair, i1]
  rw [cloop_map (g := fun s : Slot => .val (.str s.1))]
  rotate_left
  · intro t ht; simp [compBody, eSlot]
  simp [s1, i2]
  apply outR_of
  simp only [post_then]
  apply floop_post (I := fun r S => (∃ j k l, S = ⟨[some (.val (ePair sl1 ch1)), some (.val o), some (.val (ePair sl2 ch2)), some (.val (.lst (sl1.map fun s => .str s.1))), j, k, l], ob⟩) ∧ firstIn (sl1.map (·.1)) (sl2.map (·.1)) = firstIn (sl1.map (·.1)) (r.map (·.1)))
  · exact ⟨⟨_, _, _, rfl⟩, rfl⟩
  · rintro x r S ⟨⟨j, k, l, rfl⟩, h⟩
    have h1 : doIn (.val (.str x.1)) (.val (.lst (sl1.map fun s => .str s.1))) = some (decide (x.1 ∈ sl1.map (·.1))) := by
      have := in_lst_strs (s := x.1) (l := sl1.map (·.1))
      rw [List.map_map] at this
      exact this
    by_cases h2 : x.1 ∈ sl1.map (·.1)
    · have : firstIn (sl1.map (·.1)) (sl2.map (·.1)) = some x.1 := by rw [h]; simp [firstIn] at h2 ⊢; left; exact h2
      simp [forBody, eSlot, h1, h2, dueD, this]
    · have : firstIn (sl1.map (·.1)) (sl2.map (·.1)) = firstIn (sl1.map (·.1)) (r.map (·.1)) := by rw [h]; simp [firstIn, h2]
      simp [forBody, eSlot, h1, h2, this]
  · rintro S ⟨⟨j, k, l, rfl⟩, h⟩
    have q1 : firstIn (sl1.map (·.1)) (sl2.map (·.1)) = none := by rw [h]; rfl
    simp [i3, ePair]
    rw [cloop_map (g := fun s : Chart => .val (.str s.1))]
    rotate_left
    · intro t ht; simp [compBody, eChart]
    simp [c1, i4]
    try simp only [post_then]
    apply floop_post (I := fun r S => (∃ j k l, S = ⟨[some (.val (ePair sl1 ch1)), some (.val o), some (.val (ePair sl2 ch2)), some (.val (.lst (ch1.map fun s => .str s.1))), j, k, l], ob⟩) ∧ firstIn (ch1.map (·.1)) (ch2.map (·.1)) = firstIn (ch1.map (·.1)) (r.map (·.1)))
    · exact ⟨⟨_, _, _, rfl⟩, rfl⟩
    · rintro x r S ⟨⟨j, k, l, rfl⟩, h⟩
      have h1 : doIn (.val (.str x.1)) (.val (.lst (ch1.map fun s => .str s.1))) = some (decide (x.1 ∈ ch1.map (·.1))) := by
        have := in_lst_strs (s := x.1) (l := ch1.map (·.1))
        rw [List.map_map] at this
        exact this
      by_cases h2 : x.1 ∈ ch1.map (·.1)
      · have : firstIn (ch1.map (·.1)) (ch2.map (·.1)) = some x.1 := by rw [h]; simp [firstIn] at h2 ⊢; left; exact h2
        simp [forBody, eChart, h1, h2, dueD, q1, this]
      · have : firstIn (ch1.map (·.1)) (ch2.map (·.1)) = firstIn (ch1.map (·.1)) (r.map (·.1)) := by rw [h]; simp [firstIn, h2]
        simp [forBody, eChart, h1, h2, this]
    · rintro S ⟨⟨j, k, l, rfl⟩, h⟩
      have q2 : firstIn (ch1.map (·.1)) (ch2.map (·.1)) = none := by rw [h]; rfl
      simp [l1, l2, l3, l4, ePair, doAdd, M.asInt]
      have e1 : ((4 : Int) < ↑sl1.length + ↑sl2.length) ↔ 4 < sl1.length + sl2.length := by omega
      have e2 : ((6 : Int) < ↑ch1.length + ↑ch2.length) ↔ 6 < ch1.length + ch2.length := by omega
      simp only [e1, e2]
      simp only [ePair] at hs
      by_cases h4 : 4 < sl1.length + sl2.length
      · simp [h4, dueD, q1, q2]
      · by_cases h6 : 6 < ch1.length + ch2.length
        · simp [h4, h6, dueD, q1, q2]
        · simp [h4, h6, dueD, q1, q2, hs]
theorem law_answer_ok (n : Nat) {sl1 sl2 : List Slot} {ch1 ch2 : List Chart} {o : D} (ho : plnB 64 o = true) (H1 : HouseOk C sl1 ch1) (H2 : HouseOk C sl2 ch2) {i j : Nat} {ob : List Ob} (hi : ob[i]? = some (oHouse sl1 ch1)) (hj : ob[j]? = some (oHouse sl2 ch2)) :
    ∃ ob', C (n + 12) f__law_answer [.obj i, o, .obj j] ob = .ok (.val (dueD sl1 ch1 o sl2 ch2)) (ob ++ ob') := by
  have h1 := sew_ok hC n ho H1 H2 hi hj
  rw [hC.eq (Fn := c__law_answer) rfl]
  unfold sewR at h1
  unfold dueD
  cases q1 : firstIn (sl1.map (·.1)) (sl2.map (·.1)) with
  | some x =>
    refine ⟨[], ?_⟩
    rw [q1] at h1
    simp [c__law_answer, h1, tryR, sup_eq, supT, exS, exE, xfield]
  | none =>
  rw [q1] at h1
  cases q2 : firstIn (ch1.map (·.1)) (ch2.map (·.1)) with
  | some x =>
    refine ⟨[], ?_⟩
    rw [q2] at h1
    simp [c__law_answer, h1, tryR, sup_eq, supT, exS, exE, xfield]
  | none =>
  rw [q2] at h1
  by_cases h4 : 4 < sl1.length + sl2.length
  · refine ⟨[⟨k_House, []⟩], ?_⟩
    simp only [h4, if_true] at h1
    simp [c__law_answer, h1, tryR, sup_eq, supT, exS, exE, xfield, h4]
  · by_cases h6 : 6 < ch1.length + ch2.length
    · refine ⟨[⟨k_House, []⟩], ?_⟩
      simp only [h4, h6, if_true, if_false] at h1
      simp [c__law_answer, h1, tryR, sup_eq, supT, exS, exE, xfield, h4, h6]
    · simp only [h4, h6, if_false] at h1
      have iso1 : PG.iso 1 1 = true := rfl
      refine ⟨[oHouse (sl1 ++ sl2) (ch1.map (sewnCh o (mainName ch2)) ++ ch2), oLinks (sl1 ++ sl2) (ch1.map (sewnCh o (mainName ch2)) ++ ch2)], ?_⟩
      simp [c__law_answer, h1, h4, h6, tyName, isTy, iso1]
end Tk.K61
/- Mg -/
set_option Elab.async false
set_option linter.all false
set_option maxRecDepth 100000
namespace Tk.K61
open Tk Tk.WP Tk.Md
variable {C : Nat → CallFn} (hC : Lvl PG C)
include hC
theorem law_mixed_ok (n : Nat) (s k : Int) (ob : List Ob) : ∃ v : Int, C (n + 2) f__law_mixed [.int s, .int k] ob = .ok (.val (.int v)) ob := by
  rw [hC.eq (Fn := c__law_mixed) rfl]
  have m1 : smul s 48271 = true := smul_r (by decide) (by decide)
  have m2 : smul k 69621 = true := smul_r (by decide) (by decide)
  have m3 : smul k 40014 = true := smul_r (by decide) (by decide)
  generalize h1 : (s * 48271 + k * 69621 + 12345) % 2147483647 = x1
  have m4 : smul x1 x1 = true := smul_r (by omega) (by omega)
  generalize h2 : (x1 * x1 + k * 40014 + 7) % 2147483399 = x2
  have m5 : smul x2 x2 = true := smul_r (by omega) (by omega)
  refine ⟨(x2 * x2 + x2 / 7 + k) % 2147483563 / 11, ?_⟩
  simp [c__law_mixed, m1, m2, m3, h1, m4, h2, m5]
theorem law_draws_ok (n : Nat) (ns : List Int) (hn : ns.length ≤ 63) (count : Nat) (hc : count ≤ 1000) (ob : List Ob) :
    ∃ ds : List Nat, ds.length = count ∧ (∀ r ∈ ds, r < 60) ∧ C (n + 3) f__law_draws [.scr (ns.map .int), .int count] ob = .ok (.lst (ds.map fun r : Nat => .val (.int (r : Int)))) ob := by
  rw [hC.eq (Fn := c__law_draws) rfl]
  simp [c__law_draws, doLen, M.asStr, M.seq]
  refine outR_ex (P := fun x => ∃ ds : List Nat, ds.length = count ∧ (∀ r ∈ ds, r < 60) ∧ x = .ok (.lst (ds.map fun r : Nat => .val (.int (r : Int)))) ob) ?_
  simp only [post_then]
  apply floop_pre (I := fun pre S => ∃ (rs : List Nat) (seed : Int) (j k l : Option M), S = ⟨[some (.val (.scr (ns.map .int))), some (.val (.int count)), some (.lst (rs.map fun r : Nat => .val (.int (r : Int)))), some (.val (.int seed)), j, k, l], ob⟩ ∧ (∀ r ∈ rs, r < 60) ∧ rs.length ≤ 60 * pre.length)
  · exact ⟨[], ns.length, none, none, none, rfl, by simp, by simp⟩
  · rintro pre x r S e ⟨rs, seed, j, k, l, rfl, h1, h2⟩
    have m1 : smul seed 31 = true := smul_r (by decide) (by decide)
    have hp := congrArg List.length e
    simp at hp
    have r60 : rangeL [.val (.int 60)] = some ((List.range 60).map fun k : Nat => D.int (k : Int)) := rangeL_nat (n := 60) (by decide)
    simp [forBody, m1, r60]
    apply floop_pre (I := fun pr S => ∃ (rs : List Nat) (seed rest : Int) (j l : Option M), S = ⟨[some (.val (.scr (ns.map .int))), some (.val (.int count)), some (.lst (rs.map fun r : Nat => .val (.int (r : Int)))), some (.val (.int seed)), j, some (.val (.int rest)), l], ob⟩ ∧ 0 ≤ rest ∧ (∀ r ∈ rs, r < 60) ∧ rs.length ≤ 60 * pre.length + pr.length)
    · refine ⟨rs, _, _, _, _, rfl, ?_, h1, by simpa using h2⟩
      split <;> omega
    · rintro pr t r' S e' ⟨rs, seed, rest, j, l, rfl, h0, h1, h2⟩
      have hp' := congrArg List.length e'
      simp at hp'
      have g1 : rs.length < 16777216 := by omega
      obtain ⟨u, hu, hu60⟩ : ∃ u : Nat, rest % 60 = (u : Int) ∧ u < 60 := ⟨(rest % 60).toNat, by omega, by omega⟩
      have nx : ∃ rs' : List Nat, (rs.map fun r : Nat => M.val (.int (r : Int))) ++ [.val (.int (rest % 60))] = rs'.map (fun r : Nat => M.val (.int (r : Int))) ∧ (∀ r ∈ rs', r < 60) ∧ rs'.length = rs.length + 1 := by
        refine ⟨rs ++ [u], by simp [hu], fun r hr => ?_, by simp⟩
        rcases List.mem_append.mp hr with h | h
        · exact h1 r h
        · simp at h; omega
      obtain ⟨rs', e1, e2, e3⟩ := nx
      simp [forBody]
      by_cases ht : t = 0
      · simp [ht, g1]
        exact ⟨rs', seed, _, ⟨e1, rfl, rfl⟩, by omega, e2, by omega⟩
      · by_cases hr : 0 < rest
        · simp [ht, hr, g1]
          exact ⟨rs', seed, _, ⟨e1, rfl, rfl⟩, by omega, e2, by omega⟩
        · simp [ht, hr]
          exact ⟨rs, seed, rest, ⟨rfl, rfl, rfl⟩, by omega, h1, by omega⟩
    · rintro S ⟨rs, seed, rest, j, l, rfl, h0, h1, h2⟩
      simp at h2
      simp
      exact ⟨rs, rfl, h1, by omega⟩
  · rintro S ⟨rs, seed, j, k, l, rfl, h1, h2⟩
    dsimp only
    refine post_mono (Q := fun (fl : Fl) S => fl = .nx ∧ ∃ (rs : List Nat), S = ⟨[some (.val (.scr (ns.map .int))), some (.val (.int count)), some (.lst (rs.map fun r : Nat => .val (.int (r : Int)))), some (.val (.int seed)), j, k, l], ob⟩ ∧ (∀ r ∈ rs, r < 60) ∧ rs.length ≤ 3780) (E := fun _ _ _ => False) ?_ ?_ fun _ _ _ h => h.elim
    · cases rs with
      | nil => simp
      | cons r0 rs =>
        have a0 := at_mlst_map (f := fun r : Nat => M.val (.int (r : Int))) (l := r0 :: rs) (n := 0) (x := r0) rfl
        simp only [Int.natCast_zero] at a0
        simp at h2
        have hz : (0 : Int) < ↑rs.length + 1 := by omega
        simp at a0
        by_cases h3 : (r0 : Int) % 2 = 1
        · simp [hz, a0, h3]
        · have h5 : (r0 :: rs).length ≤ 3780 := by rw [List.length_cons]; omega
          simp [hz, a0, h3]
          exact ⟨r0 :: rs, by rw [List.map_cons], h1, h5⟩
    · intro fl S hh
      obtain ⟨hf, rs, hS, h1, h2⟩ := hh
      rw [hf, hS]
      simp [rangeL_nat (show count ≤ 1000000000 by omega)]
      apply floop_pre (I := fun pre S => ∃ (rs : List Nat) (l : Option M), S = ⟨[some (.val (.scr (ns.map .int))), some (.val (.int count)), some (.lst (rs.map fun r : Nat => .val (.int (r : Int)))), some (.val (.int seed)), j, k, l], ob⟩ ∧ (∀ r ∈ rs, r < 60) ∧ rs.length ≤ 3780 + pre.length ∧ pre.length ≤ rs.length)
      · exact ⟨rs, _, rfl, h1, by simpa using h2, by simp⟩
      · rintro pre t r' S e' ⟨rs, l, rfl, h1, h2, h3⟩
        have hp' := congrArg List.length e'
        simp at hp'
        have ht : t = pre.length := by
          have h4 : (List.range count)[pre.length]? = some t := by rw [e']; simp
          rw [List.getElem?_range (by omega)] at h4
          exact (Option.some.inj h4).symm
        obtain ⟨v, hv⟩ := law_mixed_ok hC n seed t ob
        have g1 : rs.length < 16777216 := by omega
        by_cases hlt : t < rs.length
        · have : (t : Int) < rs.length := by omega
          simp [forBody, this]
          exact ⟨rs, rfl, h1, by omega, by omega⟩
        · have : ¬ (t : Int) < rs.length := by omega
          obtain ⟨u, hu, hu60⟩ : ∃ u : Nat, v % 60 = (u : Int) ∧ u < 60 := ⟨(v % 60).toNat, by omega, by omega⟩
          simp [forBody, this, hv, hu, g1]
          refine ⟨rs ++ [u], by simp, fun r hr => ?_, by simp; omega, by simp; omega⟩
          rcases List.mem_append.mp hr with h | h
          · exact h1 r h
          · simp at h; omega
      · rintro S ⟨rs, l, rfl, h1, h2, h3⟩
        simp at h3
        simp [slc_mlst_to h3]
        exact ⟨rs.take count, by simp; omega, fun r hr => h1 r (List.mem_of_mem_take hr), by simp⟩
end Tk.K61
/- Mg2 -/
set_option Elab.async false
set_option linter.all false
set_option maxRecDepth 100000
set_option maxHeartbeats 0
namespace Tk.K61
open Tk Tk.WP Tk.Md
variable {C : Nat → CallFn} (hC : Lvl PG C)
include hC
theorem law_slots_ok (n : Nat) {ds : List Nat} {mode : Nat} (hl : 4 ≤ ds.length) (hm : mode < 3) (ob : List Ob) : C (n + 2) f__law_slots [eDr ds, .int mode] ob = .ok (.val (eSlots (genSlots ds))) ob := by
  rw [hC.eq (Fn := c__law_slots) rfl]
  have d1 := dr_at (ds := ds) 1 1 rfl (by omega)
  have d2 := dr_at (ds := ds) 2 2 rfl (by omega)
  have d3 := dr_at (ds := ds) 3 3 rfl (by omega)
  have m3 : ¬ mode = 3 := by omega
  have m3' : ¬ (mode : Int) = 3 := by omega
  have a1 : (M.val (.lst [.lst [], .lst [.int 1], .lst [.int 2], .lst [.int 3], .lst [.int 4], .lst [.int 1, .int 1], .lst [.int 1, .int 2], .lst [.int 2, .int 1]])).at_ (.int ((dr ds 1 : Int) % 8)) = some (.val (eNs (genShape ds))) := map_at (f := eNs) (l := shapes) (z := []) _ (dr ds 1 % 8) (by omega) (Nat.mod_lt _ (by decide))
  have a2 : (M.val (.lst [.lst [.str [116, 111, 119, 110], .str [100]], .lst [.str [100], .str [116, 111, 119, 110]]])).at_ (.int ((dr ds 2 : Int) % 2)) = some (.val (eStrs (slotNames.nth (dr ds 2 % 2) []))) := map_at (f := eStrs) (l := slotNames) (z := []) _ (dr ds 2 % 2) (by omega) (Nat.mod_lt _ (by decide))
  have hs : (genShape ds).length ≤ 2 ∧ ∀ x ∈ genShape ds, x ≤ 4 := by
    unfold genShape
    have : dr ds 1 % 8 < 8 := Nat.mod_lt _ (by decide)
    revert this
    generalize dr ds 1 % 8 = x
    intro hx
    have key : ∀ x < 8, (shapes.nth x []).length ≤ 2 ∧ ∀ y ∈ shapes.nth x [], y ≤ 4 := by decide
    exact key x hx
  have hn : (slotNames.nth (dr ds 2 % 2) []).length = 2 := by
    have key : ∀ x < 2, (slotNames.nth x []).length = 2 := by decide
    exact key _ (Nat.mod_lt _ (by decide))
  simp [c__law_slots, d1, d2, d3, m3, m3', a1, a2]
  rw [rangeL_nat (by omega)]
  simp
  apply outR_of
  try simp only [post_then]
  apply floop_rng (genShape ds) (I := fun pre S => ∃ j k, S = ⟨[some (.val (eDr ds)), some (.val (.int mode)), some (.val (eNs (genShape ds))), some (.val (eStrs (slotNames.nth (dr ds 2 % 2) []))), some (.val (eStrs slotWords)), some (.val (.int ((dr ds 3 : Int) % 4))), some (.lst ((List.range pre.length).map fun i => .val (eSlot (genSlot ds i)))), j, k], ob⟩)
  · exact ⟨_, _, rfl⟩
  · rintro pre x r S e ⟨j, k, rfl⟩
    have g1 := pre_len e
    have b1 := strs_at (l := slotNames.nth (dr ds 2 % 2) []) (pre.length : Int) pre.length rfl (by omega)
    have b2 := ns_at (l := genShape ds) (pre.length : Int) pre.length rfl (by omega)
    have b3 : (genShape ds).nth pre.length 0 ≤ 4 := hs.2 _ (nth_mem g1)
    simp [forBody, b1, b2]
    rw [rangeL_nat (by omega)]
    simp
    rw [cloop_map (g := fun k : Nat => .val (.str (slotWords.nth ((dr ds 3 + k) % 4) [])))]
    rotate_left
    · intro t ht
      have b4 := strs_at (l := slotWords) (((dr ds 3 : Int) + t) % 4) ((dr ds 3 + t) % 4) (by omega) (Nat.mod_lt _ (by decide))
      simp [compBody, b4]
    · have b5 : (genShape ds).nth pre.length 0 ≤ 16777216 := by omega
      have b6 : pre.length < 16777216 := by omega
      simp [b5, b6, List.range_succ, eSlot, genSlot, eWs, Function.comp_def]
  · rintro S ⟨j, k, rfl⟩
    simp [genSlots, eSlots]
theorem law_names_ok (n : Nat) (shift count : Nat) (hc : count ≤ 1000) (ob : List Ob) : C (n + 2) f__law_names [.int shift, .int count] ob = .ok (.lst ((genNames shift count).map fun s => .val (.str s))) ob := by
  rw [hC.eq (Fn := c__law_names) rfl]
  simp [c__law_names]
  rw [rangeL_nat (by omega)]
  simp
  rw [cloop_map (g := fun k : Nat => .val (.str (nodeNames.nth ((shift + k) % 9) [])))]
  rotate_left
  · intro t ht
    have b4 := strs_at (l := nodeNames) (((shift : Int) + t) % 9) ((shift + t) % 9) (by omega) (Nat.mod_lt _ (by decide))
    simp only [nodeNames, eStrs, List.map] at b4
    simp [compBody, b4, nodeNames]
  · have h1 : count ≤ 16777216 := by omega
    simp [h1, genNames, Function.comp_def]
omit hC in
theorem genMany_le (ds : List Nat) : genMany ds ≤ 3 := by unfold genMany; omega
omit hC in
theorem genBack_len (ds : List Nat) (j : Nat) : (genBack ds j).length ≤ 2 := by
  unfold genBack
  have key : ∀ x < 3, (backWords.nth x []).length ≤ 2 := by decide
  split
  · exact key _ (Nat.mod_lt _ (by decide))
  · simp
theorem law_base_ok (n : Nat) {ds : List Nat} {mode : Nat} (hl : 12 ≤ ds.length) (hm : mode < 3) (ob : List Ob) : C (n + 3) f__law_base [eDr ds, .int mode] ob = .ok (.val (eBase (genBase ds mode))) ob := by
  rw [hC.eq (Fn := c__law_base) rfl]
  have d4 := dr_at (ds := ds) 4 4 rfl (by omega)
  have d5 := dr_at (ds := ds) 5 5 rfl (by omega)
  have d11 := dr_at (ds := ds) 11 11 rfl (by omega)
  have m3 : ¬ mode = 3 := by omega
  have m3' : ¬ (mode : Int) = 3 := by omega
  have a1 : (M.val (.lst [.lst [.str [109, 97, 105, 110], .str [100, 101, 115, 107], .str [99]], .lst [.str [99], .str [109, 97, 105, 110], .str [100, 101, 115, 107]], .lst [.str [100, 101, 115, 107], .str [99], .str [109, 97, 105, 110]]])).at_ (.int ((dr ds 5 : Int) % 3)) = some (.val (eStrs (chartNames.nth (dr ds 5 % 3) []))) := map_at (f := eStrs) (l := chartNames) (z := []) _ (dr ds 5 % 3) (by omega) (Nat.mod_lt _ (by decide))
  have hn : (chartNames.nth (dr ds 5 % 3) []).length = 3 := by
    have key : ∀ x < 3, (chartNames.nth x []).length = 3 := by decide
    exact key _ (Nat.mod_lt _ (by decide))
  have gm := genMany_le ds
  have rg : rangeL [.val (.int (1 + (dr ds 4 : Int) % 3))] = some ((List.range (genMany ds)).map fun k : Nat => D.int (k : Int)) := by
    have := rangeL_nat (n := genMany ds) (by omega)
    rw [show ((genMany ds : Nat) : Int) = 1 + (dr ds 4 : Int) % 3 by unfold genMany; omega] at this
    exact this
  simp [c__law_base, d4, d5, m3, m3', a1, rg]
  apply outR_of
  try simp only [post_then]
  apply floop_pre (I := fun pre S => ∃ j k l m, S = ⟨[some (.val (eDr ds)), some (.val (.int mode)), some (.val (.int (1 + (dr ds 4 : Int) % 3))), some (.val (eStrs (chartNames.nth (dr ds 5 % 3) []))), some (.lst (pre.map fun i => .val (eStrs (genBack ds i)))), some (.lst (pre.map fun i => .lst ((genName ds i).map fun s => .val (.str s)))), some (.lst (pre.map fun i => .val (.int (genCount ds i : Int)))), j, k, l, m], ob⟩)
  · exact ⟨_, _, _, _, rfl⟩
  · rintro pre x r S e ⟨j, k, l, m, rfl⟩
    have g1 := pre_len e
    simp at g1
    have hx : x = pre.length := by
      have h4 : (List.range (genMany ds))[pre.length]? = some x := by rw [e]; simp
      rw [List.getElem?_range (by omega)] at h4
      exact (Option.some.inj h4).symm
    have hx2 : x ≤ 2 := by omega
    have g2 : pre.length < 16777216 := by omega
    have d8 := dr_at (ds := ds) (8 + (x : Int)) (8 + x) (by omega) (by omega)
    have d5x := dr_at (ds := ds) (5 + (x : Int)) (5 + x) (by omega) (by omega)
    have a2 : (M.val (.lst [.lst [], .lst [.str [111, 107]], .lst [.str [110, 111], .str [111, 107]]])).at_ (.int ((dr ds (5 + x) : Int) % 3)) = some (.val (eStrs (backWords.nth (dr ds (5 + x) % 3) []))) := map_at (f := eStrs) (l := backWords) (z := []) _ (dr ds (5 + x) % 3) (by omega) (Nat.mod_lt _ (by decide))
    have gb := genBack_len ds x
    have hcount : (1 + (dr ds (8 + x) : Int) % 4) = (genCount ds x : Int) := by unfold genCount; omega
    have hsh : ((dr ds (8 + x) : Int) / 4) = ((dr ds (8 + x) / 4 : Nat) : Int) := by omega
    by_cases h0 : x = 0
    · have hx0 : ¬ 0 < x := by omega
      have hx0' : ¬ (0 : Int) < x := by omega
      have he : ((if (0 : Int) < (dr ds 11 : Int) % 3 then (1 : Int) else 0)) = (genExtra ds x : Int) := by
        unfold genExtra
        rw [if_neg hx0]
        by_cases h : 0 < dr ds 11 % 3
        · rw [if_pos h, if_pos (by omega)]; rfl
        · rw [if_neg h, if_neg (by omega)]; rfl
      have hle : genExtra ds x ≤ 1 := by unfold genExtra; rw [if_neg hx0]; split <;> omega
      have nm := law_names_ok hC n (dr ds (8 + x) / 4) (genCount ds x + genExtra ds x) (by unfold genCount; omega) ob
      have hb : genBack ds x = [] := by unfold genBack; rw [if_neg hx0]
      simp at nm
      simp [forBody, d8, d11, hcount, he, g2, nm]
      rw [if_neg hx0]
      exact ⟨by rw [hb]; rfl, rfl⟩
    · have hx0 : 0 < x := by omega
      have hx0' : (0 : Int) < x := by omega
      have hb : genBack ds x = backWords.nth (dr ds (5 + x) % 3) [] := by unfold genBack; rw [if_pos hx0]
      have he : ((genBack ds x).length : Int) = (genExtra ds x : Int) := by unfold genExtra; rw [if_pos hx0]
      have nm := law_names_ok hC n (dr ds (8 + x) / 4) (genCount ds x + genExtra ds x) (by unfold genCount genExtra; rw [if_pos hx0]; omega) ob
      simp at nm
      rw [← hb] at a2
      simp [forBody, d8, d11, d5x, a2, hcount, he, g2, nm]
      rw [if_pos hx0]
      rfl
  · rintro S ⟨j, k, l, m, rfl⟩
    have sl := law_slots_ok hC n (ds := ds) (mode := mode) (by omega) hm ob
    have sc : (M.val (eStrs (chartNames.nth (dr ds 5 % 3) []))).slc none (some (1 + (dr ds 4 : Int) % 3)) = some (.lst (((chartNames.nth (dr ds 5 % 3) []).take (genMany ds)).map fun s => .val (.str s))) := by
      have := slc_lst_to (xs := (chartNames.nth (dr ds 5 % 3) []).map D.str) (n := genMany ds) (by rw [List.length_map, hn]; exact gm)
      rw [show ((genMany ds : Nat) : Int) = 1 + (dr ds 4 : Int) % 3 by unfold genMany; omega] at this
      unfold eStrs
      rw [this]
      simp [List.map_take]
    simp [sl, sc]
    simp [eBase, genBase, eNs, eStrs, Function.comp_def]
    rw [← List.map_take, fzs_map, ← List.map_take]
    rfl
/-! ### nodes -/
omit hC in
/-- the parts of a base that a place in it needs -/
structure At (b : Base) (j k : Nat) : Prop where
  md : b.mode < 3
  sl : b.slots.length ≤ 4
  cj : j < b.charts.length
  c6 : b.charts.length ≤ 6
  nj : b.names.length = b.charts.length
  bj : b.backs.length = b.charts.length
  kn : k < (b.names.nth j []).length
  n9 : (b.names.nth j []).length ≤ 9
omit hC in
theorem base0 {b : Base} : (M.val (eBase b)).at_ (.int 0) = some (.val (eSlots b.slots)) := by simp [eBase]
omit hC in
theorem base1 {b : Base} : (M.val (eBase b)).at_ (.int 1) = some (.val (eStrs b.charts)) := by simp [eBase]
omit hC in
theorem base2 {b : Base} : (M.val (eBase b)).at_ (.int 2) = some (.val (.lst (b.names.map eStrs))) := by simp [eBase]
omit hC in
theorem base3 {b : Base} : (M.val (eBase b)).at_ (.int 3) = some (.val (.lst (b.backs.map eStrs))) := by simp [eBase]
omit hC in
theorem base4 {b : Base} : (M.val (eBase b)).at_ (.int 4) = some (.val (eNs b.counts)) := by simp [eBase]
omit hC in
theorem base5 {b : Base} : (M.val (eBase b)).at_ (.int 5) = some (.val (.int (b.mode : Int))) := by simp [eBase]
omit hC in
theorem names_at {b : Base} {j k : Nat} (A : At b j k) : (M.val (.lst (b.names.map eStrs))).at_ (.int j) = some (.val (eStrs (b.names.nth j []))) := map_at (f := eStrs) (z := []) _ j rfl (by rw [A.nj]; exact A.cj)
omit hC in
@[simp] theorem slots_len {l : List Slot} : doLen (.val (eSlots l)) = some (.val (.int l.length)) := by simp [eSlots]
omit hC in
theorem in_12 {m : Nat} : doIn (.val (.int (m : Int))) (.lst [.val (.int 1), .val (.int 2)]) = some (decide (m = 1 ∨ m = 2)) := by
  show some ([D.int 1, D.int 2].any fun y => y.eqF (.int (m : Int))) = _
  congr 1
  rw [Bool.eq_iff_iff]
  simp [D.eqF]
  omega
theorem law_target_ok (n : Nat) {ds : List Nat} {b : Base} {a j k : Nat} {kind : S} (A : At b j k) (ha : a < ds.length) (hk : b.mode = 2 → fwdKind kind = true → k + 1 < (b.names.nth j []).length) (ob : List Ob) :
    C (n + 2) f__law_target [eDr ds, .int a, eBase b, .int j, .int k, .str kind] ob = .ok (.val (.str (genTarget ds a b j k kind))) ob := by
  rw [hC.eq (Fn := c__law_target) rfl]
  have d := dr_at (ds := ds) (a : Int) a rfl ha
  have nm := names_at A
  have kn := A.kn
  have f1 : doIn (.val (.str kind)) (.lst [.val (.str [115, 97, 121]), .val (.str [103, 111]), .val (.str [115, 101, 116]), .val (.str [116, 101, 115, 116]), .val (.str [104, 97, 110, 100])]) = some (fwdKind kind) := in_mlst_strs (l := [[115, 97, 121], [103, 111], [115, 101, 116], [116, 101, 115, 116], [104, 97, 110, 100]])
  have pos : ((b.names.nth j []).length : Int) > 0 := by omega
  by_cases h2 : b.mode = 2
  · by_cases hf : fwdKind kind = true
    · have hk := hk h2 hf
      have x1 := strs_at (l := b.names.nth j []) ((k : Int) + 1 + (dr ds a : Int) % (((b.names.nth j []).length : Int) - k - 1)) (k + 1 + dr ds a % ((b.names.nth j []).length - k - 1)) (by
        rw [show (((b.names.nth j []).length : Int) - k - 1) = (((b.names.nth j []).length - k - 1 : Nat) : Int) by omega]
        omega) (by have := Nat.mod_lt (dr ds a) (show 0 < (b.names.nth j []).length - k - 1 by omega); omega)
      have x2 : (1 : Int) < ((b.names.nth j []).length : Int) - k := by omega
      simp [c__law_target, base2, nm, base5, h2, f1, hf, d, genTarget]
      simp [x1, x2]
    · have x1 := strs_at (l := b.names.nth j []) ((dr ds a : Int) % ((b.names.nth j []).length : Int)) (dr ds a % (b.names.nth j []).length) (by omega) (Nat.mod_lt _ (by omega))
      have x2 : 0 < (b.names.nth j []).length := by omega
      simp [c__law_target, base2, nm, base5, h2, f1, hf, d, genTarget]
      simp [x1, x2]
  · have x1 := strs_at (l := b.names.nth j []) ((dr ds a : Int) % ((b.names.nth j []).length : Int)) (dr ds a % (b.names.nth j []).length) (by omega) (Nat.mod_lt _ (by omega))
    have x2 : 0 < (b.names.nth j []).length := by omega
    have h2' : ¬ (b.mode : Int) = 2 := by omega
    simp [c__law_target, base2, nm, base5, h2, h2', f1, d, genTarget]
    simp [x1, x2]
theorem law_said_ok (n : Nat) {ds : List Nat} {a : Nat} {sl : List Slot} (ha : a < ds.length) (hs : ∀ s ∈ sl, s.1.length ≤ 12) (ob : List Ob) : C (n + 2) f__law_said [eDr ds, .int a, eSlots sl] ob = .ok (.val (.str (genSaid ds a sl))) ob := by
  rw [hC.eq (Fn := c__law_said) rfl]
  have d := dr_at (ds := ds) (a : Int) a rfl ha
  by_cases h0 : sl.length = 0
  · have x1 := strs_at (l := plainTexts) ((dr ds a : Int) % 3) (dr ds a % 3) (by omega) (Nat.mod_lt _ (by decide))
    simp only [plainTexts, eStrs, List.map] at x1
    simp [c__law_said, h0, d, x1, genSaid, plainTexts]
  · have hp : 0 < sl.length := by omega
    have h0' : ¬ sl = [] := by intro e; rw [e] at h0; exact h0 rfl
    have y1 := mapt_at (f := eSlot) (l := sl) (z := ([], [])) ((dr ds a : Int) % (sl.length : Int)) (dr ds a % sl.length) (by omega) (Nat.mod_lt _ hp)
    have y2 := mapt_at (f := eSlot) (l := sl) (z := ([], [])) 0 0 rfl hp
    have y3 : ∀ s : Slot, (M.val (eSlot s)).at_ (.int 0) = some (.val (.str s.1)) := fun s => by simp [eSlot]
    have z1 := hs _ (nth_mem (z := ([], [])) (Nat.mod_lt (dr ds a) hp))
    have z2 := hs _ (nth_mem (z := ([], [])) hp)
    have x1 := strs_at (l := [[72, 105, 46], [83, 97, 121, 32, 60] ++ (sl.nth (dr ds a % sl.length) ([], [])).1 ++ [62, 44, 32, 112, 108, 101, 97, 115, 101], [60] ++ (sl.nth (dr ds a % sl.length) ([], [])).1 ++ [62, 32, 32, 111, 114, 32, 60] ++ (sl.nth 0 ([], [])).1 ++ [62, 63]]) ((dr ds a : Int) / 2 % 3) (dr ds a / 2 % 3) (by omega) (Nat.mod_lt _ (by decide))
    simp only [eStrs, List.map] at x1
    have e1 : M.val (eSlots sl) = .val (.tup (sl.map eSlot)) := rfl
    have p1 := add_str (x := [83, 97, 121, 32, 60]) (y := (sl.nth (dr ds a % sl.length) ([], [])).1) (by simp; omega)
    have p2 := add_str (x := [83, 97, 121, 32, 60] ++ (sl.nth (dr ds a % sl.length) ([], [])).1) (y := [62, 44, 32, 112, 108, 101, 97, 115, 101]) (by simp; omega)
    have p3 := add_str (x := [60]) (y := (sl.nth (dr ds a % sl.length) ([], [])).1) (by simp; omega)
    have p4 := add_str (x := [60] ++ (sl.nth (dr ds a % sl.length) ([], [])).1) (y := [62, 32, 32, 111, 114, 32, 60]) (by simp; omega)
    have p5 := add_str (x := [60] ++ (sl.nth (dr ds a % sl.length) ([], [])).1 ++ [62, 32, 32, 111, 114, 32, 60]) (y := (sl.nth 0 ([], [])).1) (by simp; omega)
    have p6 := add_str (x := [60] ++ (sl.nth (dr ds a % sl.length) ([], [])).1 ++ [62, 32, 32, 111, 114, 32, 60] ++ (sl.nth 0 ([], [])).1) (y := [62, 63]) (by simp; omega)
    simp at p1 p2 p3 p4 p5 p6 x1
    simp [c__law_said, h0, hp, d, x1, genSaid, e1, y1, y2, y3, p1, p2, p3, p4, p5, p6]
end Tk.K61
/- Mg4 -/
set_option Elab.async false
set_option linter.all false
set_option maxRecDepth 100000
set_option maxHeartbeats 0
namespace Tk.K61
open Tk Tk.WP Tk.Md
variable {C : Nat → CallFn} (hC : Lvl PG C)
include hC
omit hC in
theorem in_strs (l : List S) (q : S) : doIn (.val (.str q)) (.lst (l.map fun x => .val (.str x))) = some (decide (q ∈ l)) := in_mlst_strs
omit hC in
theorem base_mode {b : Base} (m : Nat) : eqD (.int (b.mode : Int)) (.int (m : Int)) = some (decide (b.mode = m)) := by
  rw [eqD_int]; congr 1; rw [Bool.eq_iff_iff]; simp; omega
def kind1 (ds : List Nat) (a : Nat) (b : Base) (j k : Nat) (q : S) : S :=
  if (b.mode = 1 ∨ b.mode = 2) ∧ k = 1 ∧ k + 1 < (b.names.nth j []).length ∧ j + 1 < b.charts.length ∧ 0 < dr ds a % 3 then [104, 97, 110, 100]
  else if (b.mode = 1 ∨ b.mode = 2) ∧ q = [104, 97, 110, 100] then [112, 105, 99, 107] else q
theorem kind_a (n : Nat) {ds : List Nat} {b : Base} {a j k : Nat} (A : At b j k) (ha : a < ds.length) (ob : List Ob) (q : S) (kl : D) :
    ess PG (C (n + 1)) (C n) (c__law_kind.body.drop 3) ⟨[some (.val (eDr ds)), some (.val (.int a)), some (.val (eBase b)), some (.val (.int j)), some (.val (.int k)), some (.val kl), some (.val (.str q)), none], ob⟩ =
    ess PG (C (n + 1)) (C n) (c__law_kind.body.drop 5) ⟨[some (.val (eDr ds)), some (.val (.int a)), some (.val (eBase b)), some (.val (.int j)), some (.val (.int k)), some (.val kl), some (.val (.str (kind1 ds a b j k q))), some (.val (.int (((b.names.nth j []).length : Int) - 1)))], ob⟩ := by
  have d := dr_at (ds := ds) (a : Int) a rfl ha
  have nm := names_at A
  have hn := A.kn
  have md : ¬ (b.mode : Int) = 3 := by have := A.md; omega
  have md' : ¬ b.mode = 3 := by have := A.md; omega
  generalize hB : c__law_kind.body.drop 5 = B
  have hb : c__law_kind.body.drop 3 = .cons (.asg 7 (.op .sub (.cons (.op .len (.cons (.op .idx (.cons (.op .idx (.cons (.var 2) (.cons (.cst (.int (2))) .nil))) (.cons (.var 3) .nil))) .nil)) (.cons (.cst (.int (1))) .nil)))) (.cons (match c__law_kind.body.drop 4 with | .cons s _ => s | .nil => .pass) B) := by rw [← hB]; rfl
  rw [hb]
  have e1 : ((k : Int) < ((b.names.nth j []).length : Int) - 1) ↔ k + 1 < (b.names.nth j []).length := by omega
  have e2 : ((j : Int) + 1 < (b.charts.length : Int)) ↔ j + 1 < b.charts.length := by omega
  have e3 : ((0 : Int) < (dr ds a : Int) % 3) ↔ 0 < dr ds a % 3 := by omega
  have e6 : ((k : Int) = 1) ↔ k = 1 := by omega
  simp [c__law_kind, CSs.drop, d, base1, base2, base5, nm, in_12, md, md', e1, e2, e3, e6]
  unfold kind1
  by_cases c1 : b.mode = 1 ∨ b.mode = 2
  · by_cases h1 : k = 1
    · subst h1
      by_cases h2 : 1 + 1 < (b.names.nth j []).length
      · by_cases h3 : j + 1 < b.charts.length
        · by_cases h4 : 0 < dr ds a % 3
          · have h2' : (1 : Int) < ((b.names.nth j []).length : Int) - 1 := by omega
            simp [c1, h2, h2', h3, h4]
          · by_cases h5 : q = [104, 97, 110, 100] <;> simp [c1, h2, h3, h4, h5]
        · by_cases h5 : q = [104, 97, 110, 100] <;> simp [c1, h2, h3, h5]
      · have h2' : ¬ (1 : Int) < ((b.names.nth j []).length : Int) - 1 := by omega
        by_cases h5 : q = [104, 97, 110, 100] <;> simp [c1, h2, h2', h5]
    · by_cases h5 : q = [104, 97, 110, 100] <;> simp [c1, h1, h5]
  · simp [c1]
theorem kind_b (n : Nat) {ds : List Nat} {b : Base} {a j k : Nat} (A : At b j k) (ob : List Ob) (q : S) (kl : D) (dd : D) :
    outR (ess PG (C (n + 1)) (C n) (c__law_kind.body.drop 5) ⟨[some (.val dd), some (.val (.int a)), some (.val (eBase b)), some (.val (.int j)), some (.val (.int k)), some (.val kl), some (.val (.str q)), some (.val (.int (((b.names.nth j []).length : Int) - 1)))], ob⟩) =
    .ok (.val (.str (if b.mode = 2 ∧ k + 1 = (b.names.nth j []).length ∧ ¬ (q = [97, 115, 107] ∨ q = [112, 105, 99, 107]) then [101, 110, 100] else q))) ob := by
  have hn := A.kn
  have e4 : ((k : Int) = ((b.names.nth j []).length : Int) - 1) ↔ k + 1 = (b.names.nth j []).length := by omega
  have e5 : ((b.mode : Int) = 2) ↔ b.mode = 2 := by omega
  have i2 : doIn (.val (.str q)) (.lst [.val (.str [97, 115, 107]), .val (.str [112, 105, 99, 107])]) = some (decide (q = [97, 115, 107] ∨ q = [112, 105, 99, 107])) := by
    have := in_strs [[97, 115, 107], [112, 105, 99, 107]] q
    simpa using this
  simp [c__law_kind, CSs.drop, base5, e4, e5, i2]
  by_cases c1 : b.mode = 2
  · by_cases c2 : k + 1 = (b.names.nth j []).length
    · by_cases c3 : q = [97, 115, 107] ∨ q = [112, 105, 99, 107]
      · simp [c1, c2, c3]
        rcases c3 with rfl | rfl <;> simp
      · simp [c1, c2, c3]
        rw [not_or] at c3
        simp [c3]
    · simp [c1, c2]
  · simp [c1]
theorem law_kind_ok (n : Nat) {ds : List Nat} {b : Base} {a j k : Nat} (A : At b j k) (ha : a < ds.length) (ob : List Ob) :
    C (n + 2) f__law_kind [eDr ds, .int a, eBase b, .int j, .int k] ob = .ok (.val (.str (genKind ds a b j k))) ob := by
  rw [hC.eq (Fn := c__law_kind) rfl]
  have d := dr_at (ds := ds) (a : Int) a rfl ha
  have x1 := strs_at (l := kindL) ((dr ds a : Int) % 12) (dr ds a % 12) (by omega) (Nat.mod_lt _ (by decide))
  have ka := kind_a hC n A ha ob (genKind0 ds a b) (eStrs kindL)
  have kb := kind_b hC n (ds := ds) (a := a) A ob (kind1 ds a b j k (genKind0 ds a b)) (eStrs kindL) (eDr ds)
  rw [← ka] at kb
  have e0 : kind1 ds a b j k (genKind0 ds a b) = genKind1 ds a b j k := rfl
  rw [e0] at kb
  have e1 : (if b.mode = 2 ∧ k + 1 = (b.names.nth j []).length ∧ ¬ (genKind1 ds a b j k = [97, 115, 107] ∨ genKind1 ds a b j k = [112, 105, 99, 107]) then [101, 110, 100] else genKind1 ds a b j k) = genKind ds a b j k := rfl
  rw [e1] at kb
  rw [← kb]
  have body : ess PG (C (n + 1)) (C n) c__law_kind.body ⟨[some (.val (eDr ds)), some (.val (.int a)), some (.val (eBase b)), some (.val (.int j)), some (.val (.int k)), none, none, none], ob⟩ =
      ess PG (C (n + 1)) (C n) (c__law_kind.body.drop 3) ⟨[some (.val (eDr ds)), some (.val (.int a)), some (.val (eBase b)), some (.val (.int j)), some (.val (.int k)), some (.val (eStrs kindL)), some (.val (.str (genKind0 ds a b))), none], ob⟩ := by
    rw [ess_split 3]
    generalize c__law_kind.body.drop 3 = B
    simp only [kindL, eStrs, List.map] at x1
    unfold genKind0
    generalize hq : kindL.nth (dr ds a % 12) [] = q at *
    simp only [kindL] at hq
    rw [hq] at x1
    have i3 := in_strs [[115, 101, 116], [116, 101, 115, 116], [97, 115, 107]] q
    simp only [List.map] at i3
    by_cases h0 : b.slots = []
    · by_cases h1 : q = [115, 101, 116]
      · subst h1
        have y : doIndex (.lst [.val (.str [115, 101, 116]), .val (.str [116, 101, 115, 116]), .val (.str [97, 115, 107])]) (.val (.str [115, 101, 116])) = some (.val (.int 0)) := rfl
        have y2 : (M.val (.lst [.str [103, 111], .str [115, 97, 121], .str [112, 105, 99, 107]])).at_ (.int 0) = some (.val (.str [103, 111])) := rfl
        simp [c__law_kind, CSs.take, d, x1, base0, i3, h0, eStrs, kindL, y, y2]
      · by_cases h2 : q = [116, 101, 115, 116]
        · subst h2
          have y : doIndex (.lst [.val (.str [115, 101, 116]), .val (.str [116, 101, 115, 116]), .val (.str [97, 115, 107])]) (.val (.str [116, 101, 115, 116])) = some (.val (.int 1)) := rfl
          have y2 : (M.val (.lst [.str [103, 111], .str [115, 97, 121], .str [112, 105, 99, 107]])).at_ (.int 1) = some (.val (.str [115, 97, 121])) := rfl
          simp [c__law_kind, CSs.take, d, x1, base0, i3, h0, eStrs, kindL, y, y2]
        · by_cases h3 : q = [97, 115, 107]
          · subst h3
            have y : doIndex (.lst [.val (.str [115, 101, 116]), .val (.str [116, 101, 115, 116]), .val (.str [97, 115, 107])]) (.val (.str [97, 115, 107])) = some (.val (.int 2)) := rfl
            have y2 : (M.val (.lst [.str [103, 111], .str [115, 97, 121], .str [112, 105, 99, 107]])).at_ (.int 2) = some (.val (.str [112, 105, 99, 107])) := rfl
            simp [c__law_kind, CSs.take, d, x1, base0, i3, h0, eStrs, kindL, y, y2]
          · simp [c__law_kind, CSs.take, d, x1, base0, i3, h0, eStrs, kindL, h1, h2, h3]
    · simp [c__law_kind, CSs.take, d, x1, base0, i3, h0, eStrs, kindL]
  rw [← body]
  rfl
end Tk.K61
/- Mg5 -/
set_option Elab.async false
set_option linter.all false
set_option maxRecDepth 100000
set_option maxHeartbeats 0
namespace Tk.K61
open Tk Tk.WP Tk.Md
variable {C : Nat → CallFn} (hC : Lvl PG C)
include hC
omit hC in
theorem map_range_nth {α β : Type} (f : α → β) (z : α) (l : List α) : (List.range l.length).map (fun i => f (l.nth i z)) = l.map f := by
  apply List.ext_getElem
  · simp
  · intro i h1 h2
    simp at h1
    simp [List.nth, h1]
theorem law_arms_ok (n : Nat) {ds : List Nat} {b : Base} {a j k : Nat} {kind : S} {ws : List S} {W : D} (hW : W = eStrs ws) (A : At b j k) (ha : a + 1 + ws.length ≤ ds.length) (hw : ws.length ≤ 1000) (hk : b.mode = 2 → fwdKind kind = true → k + 1 < (b.names.nth j []).length) (ob : List Ob) :
    C (n + 3) f__law_arms [eDr ds, .int a, eBase b, .int j, .int k, .str kind, W] ob = .ok (.val (eArms (genArms ds a b j k kind ws))) ob := by
  subst hW
  rw [hC.eq (Fn := c__law_arms) rfl]
  simp [c__law_arms]
  rw [rangeL_nat (by omega)]
  simp
  rw [cloop_map (g := fun i : Nat => .val (eArm (ws.nth i [], genTarget ds (a + 1 + i) b j k kind)))]
  rotate_left
  · intro i hi
    simp at hi
    have h1 := strs_at (l := ws) (i : Int) i rfl hi
    have h2 := law_target_ok hC n (ds := ds) (b := b) (a := a + 1 + i) (kind := kind) A (by omega) hk ob
    simp at h2
    simp [compBody, h1, h2, eArm]
  · have h3 : ws.length ≤ 16777216 := by omega
    simp [h3, genArms, eArms, Function.comp_def]
omit hC in
theorem kind_in (ds : List Nat) (a : Nat) (b : Base) (j k : Nat) : genKind ds a b j k ∈ [[115, 97, 121], [103, 111], [115, 101, 116], [116, 101, 115, 116], [97, 115, 107], [112, 105, 99, 107], [104, 97, 110, 100], [101, 110, 100]] := by
  have h0 : genKind0 ds a b ∈ [[115, 97, 121], [103, 111], [115, 101, 116], [116, 101, 115, 116], [97, 115, 107], [112, 105, 99, 107], [104, 97, 110, 100], [101, 110, 100]] := by
    have key : ∀ x < 12, kindL.nth x [] ∈ [[115, 97, 121], [103, 111], [115, 101, 116], [116, 101, 115, 116], [97, 115, 107], [112, 105, 99, 107], [104, 97, 110, 100], [101, 110, 100]] := by decide
    have := key (dr ds a % 12) (Nat.mod_lt _ (by decide))
    unfold genKind0
    simp only
    split
    · split
      · simp
      · split
        · simp
        · split
          · simp
          · exact this
    · exact this
  have h1 : genKind1 ds a b j k ∈ [[115, 97, 121], [103, 111], [115, 101, 116], [116, 101, 115, 116], [97, 115, 107], [112, 105, 99, 107], [104, 97, 110, 100], [101, 110, 100]] := by
    unfold genKind1
    split
    · simp
    · split
      · simp
      · exact h0
  unfold genKind
  split
  · simp
  · exact h1
omit hC in
/-- forward kinds stand before the last place, in mode 2 -/
theorem kind_fwd {ds : List Nat} {a : Nat} {b : Base} {j k : Nat} (A : At b j k) (h2 : b.mode = 2) (hf : fwdKind (genKind ds a b j k) = true) : k + 1 < (b.names.nth j []).length := by
  have hn := A.kn
  rcases Nat.lt_or_ge (k + 1) (b.names.nth j []).length with h | h
  · exact h
  · exfalso
    have hk : k + 1 = (b.names.nth j []).length := by omega
    unfold genKind at hf
    split at hf
    · revert hf; decide
    · rename_i hc
      simp only [h2, hk, true_and, Classical.not_not] at hc
      rcases hc with e | e <;> (rw [e] at hf; revert hf; decide)
omit hC in
/-- what a place in a base needs for its node -/
structure At2 (b : Base) (j k : Nat) : Prop extends At b j k where
  bl : ∀ l ∈ b.backs, l.length ≤ 4
  sw : ∀ s ∈ b.slots, s.1.length ≤ 12 ∧ s.2.length ≤ 4
omit hC in
theorem kind_hand {ds : List Nat} {a : Nat} {b : Base} {j k : Nat} (h2 : b.mode = 1 ∨ b.mode = 2) (hf : genKind ds a b j k = [104, 97, 110, 100]) : j + 1 < b.charts.length := by
  have h1 : genKind1 ds a b j k = [104, 97, 110, 100] := by
    unfold genKind at hf
    split at hf
    · cases hf
    · exact hf
  unfold genKind1 at h1
  split at h1
  · rename_i c; exact c.2.2.2.1
  · split at h1
    · cases h1
    · rename_i c; exact absurd ⟨h2, h1⟩ c
omit hC in
theorem kind_slots {ds : List Nat} {a : Nat} {b : Base} {j k : Nat} (h0 : b.slots.length = 0) : genKind ds a b j k ≠ [115, 101, 116] ∧ genKind ds a b j k ≠ [116, 101, 115, 116] ∧ genKind ds a b j k ≠ [97, 115, 107] := by
  have k0 : genKind0 ds a b ≠ [115, 101, 116] ∧ genKind0 ds a b ≠ [116, 101, 115, 116] ∧ genKind0 ds a b ≠ [97, 115, 107] := by
    unfold genKind0
    simp only [h0, if_true]
    split
    · decide
    · split
      · decide
      · split
        · decide
        · rename_i a1 a2 a3; exact ⟨a1, a2, a3⟩
  have k1 : genKind1 ds a b j k ≠ [115, 101, 116] ∧ genKind1 ds a b j k ≠ [116, 101, 115, 116] ∧ genKind1 ds a b j k ≠ [97, 115, 107] := by
    unfold genKind1
    split
    · decide
    · split
      · decide
      · exact k0
  unfold genKind
  split
  · decide
  · exact k1
theorem law_node_slot (n : Nat) {ds : List Nat} {b : Base} {a j k : Nat} (A : At2 b j k) (ha : a + 5 < ds.length) (ob : List Ob) {kd nm one two : S} (hk : kd = [115, 101, 116] ∨ kd = [116, 101, 115, 116] ∨ kd = [97, 115, 107]) (hs : b.slots.length ≠ 0) :
    outR (ess PG (C (n + 4)) (C (n + 3)) (c__law_node.body.drop 5) ⟨[some (.val (eDr ds)), some (.val (.int a)), some (.val (eBase b)), some (.val (.int j)), some (.val (.int k)), some (.val (.str nm)), some (.val (.str kd)), some (.val (eSlots b.slots)), some (.val (.str one)), some (.val (.str two)), none, none, none, none, none, none, none, none, none], ob⟩) =
      .ok (.val (let slot := b.slots.nth (dr ds (a + 3) % b.slots.length) ([], [])
        let content := ([] :: slot.2).nth (dr ds (a + 4) % (slot.2.length + 1)) []
        if kd = [115, 101, 116] then Nd.set nm slot.1 content one
        else if kd = [116, 101, 115, 116] then .test nm slot.1 content one two
        else .ask nm slot.1 one two ([[], [slot.1], b.slots.map (·.1)].nth (dr ds (a + 5) % 3) [])).enc) ob := by
  have d3 := dr_at (ds := ds) ((a : Int) + 3) (a + 3) (by omega) (by omega)
  have d4 := dr_at (ds := ds) ((a : Int) + 4) (a + 4) (by omega) (by omega)
  have d5 := dr_at (ds := ds) ((a : Int) + 5) (a + 5) (by omega) (by omega)
  have hp : 0 < b.slots.length := by omega
  have y1 := mapt_at (f := eSlot) (l := b.slots) (z := ([], [])) ((dr ds (a + 3) : Int) % (b.slots.length : Int)) (dr ds (a + 3) % b.slots.length) (by omega) (Nat.mod_lt _ hp)
  have e1 : M.val (eSlots b.slots) = .val (.tup (b.slots.map eSlot)) := rfl
  have sw := A.sw _ (nth_mem (z := ([], [])) (Nat.mod_lt (dr ds (a + 3)) hp))
  simp only
  generalize b.slots.nth (dr ds (a + 3) % b.slots.length) ([], []) = slot at *
  have y2 : (M.val (eSlot slot)).at_ (.int 0) = some (.val (.str slot.1)) := by simp [eSlot]
  have y3 : (M.val (eSlot slot)).at_ (.int 1) = some (.val (eWs slot.2)) := by simp [eSlot]
  have y4 : (M.val (eWs slot.2)).dseq = some (slot.2.map .str) := rfl
  have y5 : doAdd (.lst [.val (.str [])]) (.lst (slot.2.map fun x => .val (.str x))) = some (.lst (([] :: slot.2).map fun s => .val (.str s))) := by
    have : 1 + slot.2.length ≤ line := by show 1 + slot.2.length ≤ 16777216; omega
    have l1 : (M.lst [M.val (D.str [])]).lseq = some [.str []] := rfl
    have l2 : (M.lst (slot.2.map fun x => .val (.str x))).lseq = some (slot.2.map D.str) := allVal_map
    simp only [doAdd, M.asInt, M.asStr, l1, l2]
    simp
    omega
  have y6 := strs_at (l := [] :: slot.2) ((dr ds (a + 4) : Int) % ((slot.2.length : Int) + 1)) (dr ds (a + 4) % (slot.2.length + 1)) (by simp) (Nat.mod_lt _ (by simp))
  simp only [eStrs, List.map_cons] at y6
  have y7 : ¬ ((slot.2.length : Int) + 1 < 0) := by omega
  have y8 : (0 : Int) < (slot.2.length : Int) + 1 := by omega
  have z1 : ∀ l1 : List S, (M.val (.lst [.lst [], .lst [.str slot.1], .lst (l1.map .str)])).at_ (.int ((dr ds (a + 5) : Int) % 3)) = some (.val (eStrs ([[], [slot.1], l1].nth (dr ds (a + 5) % 3) []))) := fun l1 => map_at (f := eStrs) (l := [[], [slot.1], l1]) (z := []) _ (dr ds (a + 5) % 3) (by omega) (Nat.mod_lt _ (by decide))
  rcases hk with rfl | rfl | rfl
  · simp [c__law_node, CSs.drop, d3, d4, e1, hp, y1, y2, y3, y4, y5, y6, y8, Nd.enc]
  · simp [c__law_node, CSs.drop, d3, d4, e1, hp, y1, y2, y3, y4, y5, y6, y8, Nd.enc]
  · have h4 : b.slots.length ≤ 16777216 := by have := A.sl; omega
    have z2 := z1 (b.slots.map (·.1))
    simp at z2
    simp [c__law_node, CSs.drop, d3, d4, d5, e1, hp, y1, y2, y3, y4, y5, y6, y8, Nd.enc]
    rw [cloop_map (g := fun s : Slot => .val (.str s.1))]
    rotate_left
    · intro s hs
      simp [compBody, eSlot]
    · have z3 : ∀ l : List S, (M.val (eStrs l)).dseq = some (l.map .str) := fun l => rfl
      simp [h4, Function.comp_def] at z2 ⊢
      simp [d5, z2, z3, eWs, y2]
theorem law_node_ok (n : Nat) {ds : List Nat} {b : Base} {a j k : Nat} (A : At2 b j k) (ha : a + 5 < ds.length) (ob : List Ob) :
    C (n + 5) f__law_node [eDr ds, .int a, eBase b, .int j, .int k] ob = .ok (.val (genNode ds a b j k).enc) ob := by
  rw [hC.eq (Fn := c__law_node) rfl]
  have nm := names_at A.toAt
  have x1 := strs_at (l := b.names.nth j []) (k : Int) k rfl A.kn
  have hk := law_kind_ok hC (n + 2) (ds := ds) (a := a) A.toAt (by omega) ob
  have hf : b.mode = 2 → fwdKind (genKind ds a b j k) = true → k + 1 < (b.names.nth j []).length := fun h2 h => kind_fwd A.toAt h2 h
  have t1 := law_target_ok hC (n + 2) (ds := ds) (a := a + 1) A.toAt (by omega) hf ob
  have t2 := law_target_ok hC (n + 2) (ds := ds) (a := a + 2) A.toAt (by omega) hf ob
  have d1 := dr_at (ds := ds) ((a : Int) + 1) (a + 1) (by omega) (by omega)
  have d3 := dr_at (ds := ds) ((a : Int) + 3) (a + 3) (by omega) (by omega)
  have d4 := dr_at (ds := ds) ((a : Int) + 4) (a + 4) (by omega) (by omega)
  have d5 := dr_at (ds := ds) ((a : Int) + 5) (a + 5) (by omega) (by omega)
  simp at t1 t2
  have pre : ess PG (C (n + 4)) (C (n + 3)) c__law_node.body ⟨[some (.val (eDr ds)), some (.val (.int a)), some (.val (eBase b)), some (.val (.int j)), some (.val (.int k)), none, none, none, none, none, none, none, none, none, none, none, none, none, none], ob⟩ =
      ess PG (C (n + 4)) (C (n + 3)) (c__law_node.body.drop 5) ⟨[some (.val (eDr ds)), some (.val (.int a)), some (.val (eBase b)), some (.val (.int j)), some (.val (.int k)), some (.val (.str ((b.names.nth j []).nth k []))), some (.val (.str (genKind ds a b j k))), some (.val (eSlots b.slots)), some (.val (.str (genTarget ds (a + 1) b j k (genKind ds a b j k)))), some (.val (.str (genTarget ds (a + 2) b j k (genKind ds a b j k)))), none, none, none, none, none, none, none, none, none], ob⟩ := by
    rw [ess_split 5]
    generalize c__law_node.body.drop 5 = B
    simp [c__law_node, CSs.take, base0, base2, nm, x1, hk, t1, t2]
  have main : outR (ess PG (C (n + 4)) (C (n + 3)) (c__law_node.body.drop 5) ⟨[some (.val (eDr ds)), some (.val (.int a)), some (.val (eBase b)), some (.val (.int j)), some (.val (.int k)), some (.val (.str ((b.names.nth j []).nth k []))), some (.val (.str (genKind ds a b j k))), some (.val (eSlots b.slots)), some (.val (.str (genTarget ds (a + 1) b j k (genKind ds a b j k)))), some (.val (.str (genTarget ds (a + 2) b j k (genKind ds a b j k)))), none, none, none, none, none, none, none, none, none], ob⟩) = .ok (.val (genNode ds a b j k).enc) ob := by
    have km := kind_in ds a b j k
    have kh := kind_hand (ds := ds) (a := a) (b := b) (j := j) (k := k)
    have ks := kind_slots (ds := ds) (a := a) (b := b) (j := j) (k := k)
    unfold genNode
    simp only
    generalize genKind ds a b j k = kd at *
    simp only [List.mem_cons, List.mem_nil_iff, or_false] at km
    rcases km with rfl | rfl | rfl | rfl | rfl | rfl | rfl | rfl
    · -- say
      have sd := law_said_ok hC (n + 2) (ds := ds) (a := a + 3) (sl := b.slots) (by omega) (fun s hs => (A.sw s hs).1) ob
      simp at sd
      simp [c__law_node, CSs.drop, sd, Nd.enc]
    · simp [c__law_node, CSs.drop, Nd.enc]
    · exact law_node_slot hC n A ha ob (by simp) (fun h => by have := ks h; simp at this)
    · exact law_node_slot hC n A ha ob (by simp) (fun h => by have := ks h; simp at this)
    · exact law_node_slot hC n A ha ob (by simp) (fun h => by have := ks h; simp at this)
    · -- pick
      have y1 : ∀ i : Nat, (M.val (.lst [.str [121, 101, 115], .str [110, 111], .str [98]])).at_ (.int (((dr ds (a + 4) : Int) + i) % 3)) = some (.val (.str (pickWords.nth ((dr ds (a + 4) + i) % 3) []))) := fun i => strs_at (l := pickWords) _ ((dr ds (a + 4) + i) % 3) (by omega) (Nat.mod_lt _ (by decide))
      have y2 := rangeL_nat (n := 1 + dr ds (a + 5) % 3) (by omega)
      have y3 : 1 + dr ds (a + 5) % 3 ≤ 16777216 := by omega
      have ar := law_arms_ok hC (n + 1) (ds := ds) (b := b) (a := a) (j := j) (k := k) (kind := [112, 105, 99, 107]) (ws := genPick ds a) (W := .lst ((List.range (1 + dr ds (a + 5) % 3)).map fun i => .str (pickWords.nth ((dr ds (a + 4) + i) % 3) []))) (by unfold eStrs genPick; rw [List.map_map]; rfl) A.toAt (by unfold genPick; simp; omega) (by unfold genPick; simp; omega) hf ob
      simp at y2
      simp [c__law_node, CSs.drop, d4, d5, y2]
      rw [cloop_map (g := fun i : Nat => .val (.str (pickWords.nth ((dr ds (a + 4) + i) % 3) [])))]
      rotate_left
      · intro i hi
        simp [compBody, y1]
      · simp [y3, ar, Nd.enc]
    · -- hand
      have hh := kh
      simp at hh
      have cb : genCallee ds a b j < b.charts.length := by
        unfold genCallee
        split
        · rename_i c; exact hh c
        · exact Nat.mod_lt _ (by have := A.cj; omega)
      have z1 := strs_at (l := b.charts) ((genCallee ds a b j : Nat) : Int) (genCallee ds a b j) rfl cb
      have z2 := map_at (f := eStrs) (l := b.backs) (z := []) ((genCallee ds a b j : Nat) : Int) (genCallee ds a b j) rfl (by rw [A.bj]; exact cb)
      have z3 : (b.backs.nth (genCallee ds a b j) []).length ≤ 4 := A.bl _ (nth_mem (by rw [A.bj]; exact cb))
      have ar := law_arms_ok hC (n + 1) (ds := ds) (b := b) (a := a) (j := j) (k := k) (kind := [104, 97, 110, 100]) (ws := b.backs.nth (genCallee ds a b j) []) rfl A.toAt (by omega) (by omega) hf ob
      have md : ¬ b.mode = 3 := by have := A.md; omega
      have md' : ¬ (b.mode : Int) = 3 := by omega
      by_cases c : b.mode = 1 ∨ b.mode = 2
      · have e : ((genCallee ds a b j : Nat) : Int) = (j : Int) + 1 := by unfold genCallee; rw [if_pos c]; omega
        rw [e] at z1 z2
        have cp : 0 < b.charts.length := by have := A.cj; omega
        simp [c__law_node, CSs.drop, d3, base1, base3, base5, in_12, c, md, md', z1, z2, ar, Nd.enc, cp]
      · have e : ((genCallee ds a b j : Nat) : Int) = (dr ds (a + 3) : Int) % (b.charts.length : Int) := by unfold genCallee; rw [if_neg c]; omega
        rw [e] at z1 z2
        have cp : 0 < b.charts.length := by have := A.cj; omega
        simp [c__law_node, CSs.drop, d3, base1, base3, base5, in_12, c, md, md', z1, z2, ar, Nd.enc, cp]
    · have x2 := strs_at (l := endWords) ((dr ds (a + 1) : Int) % 3) (dr ds (a + 1) % 3) (by omega) (Nat.mod_lt _ (by decide))
      simp [endWords, eStrs] at x2
      simp [c__law_node, CSs.drop, d1, x2, Nd.enc, endWords]
  rw [← pre] at main
  exact main
/-! ### charts -/
omit hC in
theorem nth_map_range {α : Type} {f : Nat → α} {z : α} {m j : Nat} (h : j < m) : ((List.range m).map f).nth j z = f j := by
  unfold List.nth
  rw [List.getD_eq_getElem?_getD, List.getElem?_map, List.getElem?_range h]
  rfl
omit hC in
theorem genShape_facts (ds : List Nat) : (genShape ds).length ≤ 2 ∧ ∀ x ∈ genShape ds, 1 ≤ x ∧ x ≤ 4 := by
  have key : ∀ x < 8, (shapes.nth x []).length ≤ 2 ∧ ∀ y ∈ shapes.nth x [], 1 ≤ y ∧ y ≤ 4 := by decide
  exact key _ (Nat.mod_lt _ (by decide))
omit hC in
theorem gen_many {ds : List Nat} {mode : Nat} : (genBase ds mode).charts.length = genMany ds := by
  have key : ∀ x < 3, (chartNames.nth x []).length = 3 := by decide
  have := key (dr ds 5 % 3) (Nat.mod_lt _ (by decide))
  have g := genMany_le ds
  show ((chartNames.nth (dr ds 5 % 3) []).take (genMany ds)).length = _
  rw [List.length_take, this]
  omega
omit hC in
theorem gen_names {ds : List Nat} {mode j : Nat} (hj : j < genMany ds) : (genBase ds mode).names.nth j [] = genName ds j := nth_map_range hj
omit hC in
theorem gen_backs {ds : List Nat} {mode j : Nat} (hj : j < genMany ds) : (genBase ds mode).backs.nth j [] = genBack ds j := nth_map_range hj
omit hC in
theorem gen_counts {ds : List Nat} {mode j : Nat} (hj : j < genMany ds) : (genBase ds mode).counts.nth j 0 = genCount ds j := nth_map_range hj
omit hC in
theorem genName_len (ds : List Nat) (j : Nat) : (genName ds j).length = genCount ds j + genExtra ds j := by unfold genName genNames; simp
omit hC in
theorem genExtra_le (ds : List Nat) (j : Nat) : genExtra ds j ≤ 2 := by
  unfold genExtra
  have := genBack_len ds j
  split
  · exact this
  · split <;> omega
omit hC in
theorem genCount_le (ds : List Nat) (j : Nat) : 1 ≤ genCount ds j ∧ genCount ds j ≤ 4 := by unfold genCount; omega
omit hC in
theorem slot_len {ds : List Nat} : ∀ s ∈ genSlots ds, s.1.length ≤ 12 ∧ s.2.length ≤ 4 := by
  intro s hs
  obtain ⟨i, hi, rfl⟩ := List.mem_map.mp hs
  simp at hi
  have h2 := (genShape_facts ds).1
  have h4 := ((genShape_facts ds).2 _ (nth_mem (z := 0) hi)).2
  constructor
  · have key : ∀ x < 2, ∀ i < 2, ((slotNames.nth x []).nth i []).length ≤ 12 := by decide
    exact key _ (Nat.mod_lt _ (by decide)) i (by omega)
  · show ((List.range _).map _).length ≤ 4
    rw [List.length_map, List.length_range]
    exact h4
omit hC in
theorem gen_at {ds : List Nat} {mode j k : Nat} (hm : mode < 3) (hj : j < genMany ds) (hk : k < genCount ds j + genExtra ds j) : At2 (genBase ds mode) j k := by
  have g := genMany_le ds
  have e := genExtra_le ds j
  have c := genCount_le ds j
  refine ⟨⟨hm, ?_, by rw [gen_many]; exact hj, by rw [gen_many]; omega, by rw [gen_many]; show ((List.range _).map _).length = _; simp, by rw [gen_many]; show ((List.range _).map _).length = _; simp, by rw [gen_names hj, genName_len]; exact hk, by rw [gen_names hj, genName_len]; omega⟩, ?_, slot_len⟩
  · show ((List.range _).map _).length ≤ 4
    have := (genShape_facts ds).1
    simp; omega
  · intro l hl
    obtain ⟨i, _, rfl⟩ := List.mem_map.mp hl
    have := genBack_len ds i
    omega
theorem law_charts_ok (n : Nat) {ds : List Nat} {mode : Nat} (hl : 84 ≤ ds.length) (hm : mode < 3) (ob : List Ob) : C (n + 6) f__law_charts [eDr ds, .int mode] ob = .ok (.val (eCharts (genCharts ds mode))) ob := by
  rw [hC.eq (Fn := c__law_charts) rfl]
  have hb := law_base_ok hC (n + 2) (ds := ds) (mode := mode) (by omega) hm ob
  have gm := genMany_le ds
  have many : (genBase ds mode).charts.length = genMany ds := gen_many
  have d11 := dr_at (ds := ds) 11 11 rfl (by omega)
  have x2 : (M.val (.lst [.str [100, 111, 110, 101], .str [108, 101, 102, 116], .str [111, 107]])).at_ (.int ((dr ds 11 : Int) / 3 % 3)) = some (.val (.str (endWords.nth (dr ds 11 / 3 % 3) []))) := strs_at (l := endWords) _ (dr ds 11 / 3 % 3) (by omega) (Nat.mod_lt _ (by decide))
  simp [c__law_charts, hb, base1, many]
  rw [rangeL_nat (by omega)]
  simp
  apply outR_of
  simp only [post_then]
  apply floop_pre (I := fun pre S => ∃ j k l m, S = ⟨[some (.val (eDr ds)), some (.val (.int mode)), some (.val (eBase (genBase ds mode))), some (.lst (pre.map fun i => .val (eChart (genChart ds (genBase ds mode) i)))), j, k, l, m, none], ob⟩)
  · exact ⟨_, _, _, _, rfl⟩
  · rintro pre x r S e ⟨j, k, l, m, rfl⟩
    have g1 := pre_len e
    simp at g1
    have hx : x = pre.length := by
      have h4 : (List.range (genMany ds))[pre.length]? = some x := by rw [e]; simp
      rw [List.getElem?_range (by omega)] at h4
      exact (Option.some.inj h4).symm
    have hxm : x < genMany ds := by omega
    have g2 : pre.length < 16777216 := by omega
    have gc := genCount_le ds x
    have ge := genExtra_le ds x
    have y1 := ns_at (l := (genBase ds mode).counts) (x : Int) x rfl (by show x < ((List.range _).map _).length; simp; exact hxm)
    rw [gen_counts hxm] at y1
    have y2 := map_at (f := eStrs) (l := (genBase ds mode).names) (z := []) (x : Int) x rfl (by show x < ((List.range _).map _).length; simp; exact hxm)
    rw [gen_names hxm] at y2
    have y3 := map_at (f := eStrs) (l := (genBase ds mode).backs) (z := []) (x : Int) x rfl (by show x < ((List.range _).map _).length; simp; exact hxm)
    rw [gen_backs hxm] at y3
    have y4 := strs_at (l := (genBase ds mode).charts) (x : Int) x rfl (by rw [many]; exact hxm)
    have sm : smul 24 (x : Int) = true := smul_l (by decide) (by decide)
    simp [forBody, base4, y1]
    rw [rangeL_nat (by omega)]
    simp
    rw [cloop_map (g := fun k : Nat => .val (genNode ds (12 + 24 * x + 6 * k) (genBase ds mode) x k).enc)]
    rotate_left
    · intro t ht
      simp at ht
      have sm' : smul 6 (t : Int) = true := smul_l (by decide) (by decide)
      have A := gen_at (ds := ds) (mode := mode) (j := x) (k := t) hm hxm (by omega)
      have nd := law_node_ok hC n (ds := ds) (a := 12 + 24 * x + 6 * t) A (by omega) ob
      simp at nd
      simp [compBody, sm, sm', nd]
    · have s1 : (M.val (eStrs (genName ds x))).slc (some (genCount ds x : Int)) none = some (.lst (((genName ds x).drop (genCount ds x)).map fun s => .val (.str s))) := by
        have := slc_lst_from (xs := (genName ds x).map D.str) (n := genCount ds x) (by rw [List.length_map, genName_len]; omega)
        rw [← List.map_drop, List.map_map] at this
        exact this
      have l1 : ((genName ds x).drop (genCount ds x)).length = genExtra ds x := by rw [List.length_drop, genName_len]; omega
      have gc' : genCount ds x ≤ 16777216 := by omega
      generalize hR : (genName ds x).drop (genCount ds x) = R at *
      simp [base2, base4, y1, y2, s1, gc', l1, ← List.map_drop]
      rw [rangeL_nat (by omega)]
      simp
      try simp only [post_then]
      apply floop_pre (I := fun pr S => ∃ q, S = ⟨[some (.val (eDr ds)), some (.val (.int mode)), some (.val (eBase (genBase ds mode))), some (.lst (pre.map fun i => .val (eChart (genChart ds (genBase ds mode) i)))), some (.val (.int x)), some (.lst (((List.range (genCount ds x)).map fun k => .val (genNode ds (12 + 24 * x + 6 * k) (genBase ds mode) x k).enc) ++ pr.map fun i => .val (genRest ds (genBase ds mode) x i).enc)), some (.val (eStrs R)), q, none], ob⟩)
      · exact ⟨m, by simp [eStrs]⟩
      · rintro pr t r' S e' ⟨q, rfl⟩
        have p1 := pre_len e'
        simp at p1
        have ht : t = pr.length := by
          have h4 : (List.range (genExtra ds x))[pr.length]? = some t := by rw [e']; simp
          rw [List.getElem?_range (by omega)] at h4
          exact (Option.some.inj h4).symm
        have r1 := strs_at (l := R) (t : Int) t rfl (by omega)
        have p2 : genCount ds x + pr.length < 16777216 := by omega
        by_cases h0 : x = 0
        · have e0 : genRest ds (genBase ds mode) x t = .fin (R.nth t []) (endWords.nth (dr ds 11 / 3 % 3) []) := by
            unfold genRest
            simp only [gen_names hxm, gen_counts hxm, hR]
            rw [if_pos h0]
          subst h0
          simp [forBody, d11, x2, r1, p2, e0, Nd.enc]
        · have hb1 : genExtra ds x = (genBack ds x).length := by unfold genExtra; rw [if_pos (by omega)]
          have r2 := strs_at (l := genBack ds x) (t : Int) t rfl (by omega)
          have e0 : genRest ds (genBase ds mode) x t = .back (R.nth t []) ((genBack ds x).nth t []) := by
            unfold genRest
            simp only [gen_names hxm, gen_counts hxm, hR, gen_backs hxm]
            rw [if_neg h0]
          simp [forBody, h0, base3, y3, r1, r2, p2, e0, Nd.enc]
      · rintro S ⟨q, rfl⟩
        have ec : eChart (genChart ds (genBase ds mode) x) = .tup [.str ((genBase ds mode).charts.nth x []), .tup (((List.range (genCount ds x)).map fun k => (genNode ds (12 + 24 * x + 6 * k) (genBase ds mode) x k).enc) ++ (List.range (genExtra ds x)).map fun i => (genRest ds (genBase ds mode) x i).enc)] := by
          unfold genChart eChart
          simp only [gen_names hxm, gen_counts hxm]
          rw [List.map_append, List.map_map, List.map_map, ← List.length_drop, hR, l1]
          rfl
        simp [base1, y4, g2, ec]
  · rintro S ⟨j, k, l, m, rfl⟩
    simp [genCharts, eCharts, many, Function.comp_def]
end Tk.K61
/- Mp -/
set_option Elab.async false
set_option linter.all false
set_option maxRecDepth 100000
set_option maxHeartbeats 0
namespace Tk.K61
open Tk Tk.WP Tk.Md
/-! ### the drawn houses are houses -/
def sayText (s : S) : S := [83, 97, 121, 32, 60] ++ s ++ [62, 44, 32, 112, 108, 101, 97, 115, 101]
def orText (s s0 : S) : S := [60] ++ s ++ [62, 32, 32, 111, 114, 32, 60] ++ s0 ++ [62, 63]
/-- the texts with these names in their places -/
structure TextsOk (C : Nat → CallFn) (names : List S) : Prop where
  pl : ∀ t ∈ plainTexts, TextOk C t []
  say : ∀ s ∈ names, TextOk C (sayText s) [s]
  or_ : ∀ s ∈ names, ∀ s0 ∈ names, TextOk C (orText s s0) [s, s0]
theorem mod_lt {a b : Nat} (h : 0 < b) : a % b < b := Nat.mod_lt _ h
theorem genSlots_ok (ds : List Nat) : (genSlots ds).length ≤ 2 ∧ (∀ s ∈ genSlots ds, SlotOk s ∧ s.1 ∈ [[116, 111, 119, 110], [100]]) ∧ ((genSlots ds).map (·.1)).Nodup := by
  have f := genShape_facts ds
  have l2 : (genSlots ds).length ≤ 2 := by unfold genSlots; simp; exact f.1
  refine ⟨l2, fun s hs => ?_, ?_⟩
  · obtain ⟨i, hi, rfl⟩ := List.mem_map.mp hs
    simp at hi
    have f2 := f.2 _ (nth_mem (z := 0) hi)
    have hi2 : i < 2 := by omega
    have key : ∀ x < 2, ∀ i < 2, isWord ((slotNames.nth x []).nth i []) = true ∧ (slotNames.nth x []).nth i [] ∈ [[116, 111, 119, 110], [100]] := by decide
    have k1 := key (dr ds 2 % 2) (mod_lt (by decide)) i hi2
    refine ⟨⟨k1.1, ?_, ?_, ?_, ?_⟩, k1.2⟩
    · intro w hw
      obtain ⟨k, _, rfl⟩ := List.mem_map.mp hw
      have key : ∀ x < 4, isWord (slotWords.nth x []) = true := by decide
      exact key _ (mod_lt (by decide))
    · have key : ∀ c < 4, ∀ m < 5, ((List.range m).map fun k => slotWords.nth ((c + k) % 4) []).Nodup := by decide
      have := key (dr ds 3 % 4) (mod_lt (by decide)) ((genShape ds).nth i 0) (by omega)
      have e : ((List.range ((genShape ds).nth i 0)).map fun k => slotWords.nth ((dr ds 3 % 4 + k) % 4) []) = (genSlot ds i).2 := by
        unfold genSlot
        apply List.map_congr_left
        intro k _
        rw [Nat.mod_add_mod]
      rw [← e]; exact this
    · show 1 ≤ ((List.range _).map _).length; simp; exact f2.1
    · show ((List.range _).map _).length ≤ 4; simp; exact f2.2
  · unfold genSlots
    rw [List.map_map]
    have key : ∀ x < 2, ∀ m < 3, ((List.range m).map fun i => (slotNames.nth x []).nth i []).Nodup := by decide
    exact key (dr ds 2 % 2) (mod_lt (by decide)) (genShape ds).length (by omega)
section
variable {C : Nat → CallFn} {ds : List Nat} {mode : Nat} (hm : mode < 3)
theorem genNames_ok (shift count : Nat) (hc : count ≤ 9) : (∀ w ∈ genNames shift count, isWord w = true) ∧ (genNames shift count).Nodup := by
  constructor
  · intro w hw
    obtain ⟨k, _, rfl⟩ := List.mem_map.mp hw
    have key : ∀ x < 9, isWord (nodeNames.nth x []) = true := by decide
    exact key _ (mod_lt (by decide))
  · have key : ∀ c < 9, ∀ m < 10, ((List.range m).map fun k => nodeNames.nth ((c + k) % 9) []).Nodup := by decide
    have := key (shift % 9) (mod_lt (by decide)) count (by omega)
    have e : ((List.range count).map fun k => nodeNames.nth ((shift % 9 + k) % 9) []) = genNames shift count := by
      unfold genNames
      apply List.map_congr_left
      intro k _
      rw [Nat.mod_add_mod]
    rw [← e]; exact this
theorem genName_ok (ds : List Nat) (j : Nat) : (∀ w ∈ genName ds j, isWord w = true) ∧ (genName ds j).Nodup := by
  have := genExtra_le ds j
  have := genCount_le ds j
  exact genNames_ok _ _ (by omega)
theorem genTarget_mem {b : Base} {a j k : Nat} {kd : S} (A : At b j k) (h : b.mode = 2 → fwdKind kd = true → k + 1 < (b.names.nth j []).length) : genTarget ds a b j k kd ∈ b.names.nth j [] := by
  have hn := A.kn
  unfold genTarget
  simp only
  split
  · rename_i c
    have h1 := h c.1 c.2
    have := mod_lt (a := dr ds a) (show 0 < (b.names.nth j []).length - k - 1 by omega)
    exact nth_mem (by omega)
  · exact nth_mem (mod_lt (by omega))
theorem genArms_fst {b : Base} {a j k : Nat} {kd : S} {ws : List S} : (genArms ds a b j k kd ws).map (·.1) = ws := by
  unfold genArms
  rw [List.map_map]
  have := map_range_nth (fun s : S => s) [] ws
  rw [List.map_id'] at this
  exact this
theorem genPick_ok (a : Nat) : (∀ w ∈ genPick ds a, isWord w = true) ∧ (genPick ds a).Nodup ∧ 1 ≤ (genPick ds a).length ∧ (genPick ds a).length ≤ 4 := by
  refine ⟨?_, ?_, by unfold genPick; simp, by unfold genPick; simp; omega⟩
  · intro w hw
    obtain ⟨k, _, rfl⟩ := List.mem_map.mp hw
    have key : ∀ x < 3, isWord (pickWords.nth x []) = true := by decide
    exact key _ (mod_lt (by decide))
  · have key : ∀ c < 3, ∀ m < 3, ((List.range (1 + m)).map fun k => pickWords.nth ((c + k) % 3) []).Nodup := by decide
    have := key (dr ds (a + 4) % 3) (mod_lt (by decide)) (dr ds (a + 5) % 3) (mod_lt (by decide))
    have e : ((List.range (1 + dr ds (a + 5) % 3)).map fun k => pickWords.nth ((dr ds (a + 4) % 3 + k) % 3) []) = genPick ds a := by
      unfold genPick
      apply List.map_congr_left
      intro k _
      rw [Nat.mod_add_mod]
    rw [← e]; exact this
theorem genBack_ok (j : Nat) : (∀ w ∈ genBack ds j, isWord w = true) ∧ (genBack ds j).Nodup ∧ sortS (genBack ds j) = genBack ds j ∧ (genBack ds j).length ≤ 2 := by
  have key : ∀ x < 3, (∀ w ∈ backWords.nth x [], isWord w = true) ∧ (backWords.nth x []).Nodup ∧ sortS (backWords.nth x []) = backWords.nth x [] ∧ (backWords.nth x []).length ≤ 2 := by decide
  unfold genBack
  split
  · exact key _ (mod_lt (by decide))
  · exact ⟨by simp, by simp, rfl, by simp⟩
theorem endWord_ok (x : Nat) : isWord (endWords.nth (x % 3) []) = true := by
  have key : ∀ x < 3, isWord (endWords.nth x []) = true := by decide
  exact key _ (mod_lt (by decide))
theorem genSaid_ok (hT : TextsOk C [[116, 111, 119, 110], [100]]) (a : Nat) : ∃ pl, TextOk C (genSaid ds a (genSlots ds)) pl ∧ ∀ s ∈ pl, s ∈ (genSlots ds).map (·.1) := by
  unfold genSaid
  split
  · exact ⟨[], hT.pl _ (nth_mem (mod_lt (by decide))), by simp⟩
  · rename_i h0
    have hp : 0 < (genSlots ds).length := by omega
    have m1 := nth_mem (z := (([], []) : Slot)) (mod_lt (a := dr ds a) hp)
    have m2 := nth_mem (z := (([], []) : Slot)) hp
    have n1 := ((genSlots_ok ds).2.1 _ m1).2
    have n2 := ((genSlots_ok ds).2.1 _ m2).2
    simp only
    have : dr ds a / 2 % 3 < 3 := mod_lt (by decide)
    rcases (show dr ds a / 2 % 3 = 0 ∨ dr ds a / 2 % 3 = 1 ∨ dr ds a / 2 % 3 = 2 by omega) with h | h | h
    · rw [h]; exact ⟨[], hT.pl _ (show [72, 105, 46] ∈ plainTexts by decide), by simp⟩
    · rw [h]; exact ⟨_, hT.say _ n1, by intro s hs; simp at hs; subst hs; exact List.mem_map.mpr ⟨_, m1, rfl⟩⟩
    · rw [h]; exact ⟨_, hT.or_ _ n1 _ n2, by
        intro s hs; simp at hs
        rcases hs with rfl | rfl
        · exact List.mem_map.mpr ⟨_, m1, rfl⟩
        · exact List.mem_map.mpr ⟨_, m2, rfl⟩⟩
theorem genNode_name (b : Base) (a j k : Nat) : (genNode ds a b j k).name = (b.names.nth j []).nth k [] := by
  unfold genNode
  simp only
  repeat' split
  all_goals rfl
theorem genNode_notback (b : Base) (a j k : Nat) (n w : S) : genNode ds a b j k ≠ .back n w := by
  unfold genNode
  simp only
  repeat' split
  all_goals (intro h; cases h)
include hm in
theorem genNode_ok (hT : TextsOk C [[116, 111, 119, 110], [100]]) {a j k : Nat} (hj : j < genMany ds) (hk : k < genCount ds j) :
    NdOk C (genNode ds a (genBase ds mode) j k) ∧ ∀ (ch : List Chart) (main : Bool), (∀ c, c < genMany ds → ∃ nodes, ((genBase ds mode).charts.nth c [], nodes) ∈ ch ∧ backsOf nodes = genBack ds c) →
      LinkOk C (genSlots ds) ch (genName ds j) main (genNode ds a (genBase ds mode) j k) := by
  have A := gen_at (ds := ds) (mode := mode) (j := j) (k := k) hm hj (by omega)
  have gn := gen_names (ds := ds) (mode := mode) hj
  have wn := genName_ok ds j
  have T : ∀ x kd, (((genBase ds mode).mode = 2 → fwdKind kd = true → k + 1 < ((genBase ds mode).names.nth j []).length) → genTarget ds x (genBase ds mode) j k kd ∈ genName ds j) := fun x kd h => by rw [← gn]; exact genTarget_mem A.toAt h
  have hf : (genBase ds mode).mode = 2 → fwdKind (genKind ds a (genBase ds mode) j k) = true → k + 1 < ((genBase ds mode).names.nth j []).length := fun h2 h => kind_fwd A.toAt h2 h
  have km := kind_in ds a (genBase ds mode) j k
  have kh := kind_hand (ds := ds) (a := a) (b := genBase ds mode) (j := j) (k := k)
  have ks := kind_slots (ds := ds) (a := a) (b := genBase ds mode) (j := j) (k := k)
  have nw : isWord (((genBase ds mode).names.nth j []).nth k []) = true := by
    rw [gn]; exact wn.1 _ (nth_mem (by rw [genName_len]; omega))
  have so := genSlots_ok ds
  have sb : (genBase ds mode).slots = genSlots ds := rfl
  have many : (genBase ds mode).charts.length = genMany ds := gen_many
  unfold genNode
  simp only
  generalize genKind ds a (genBase ds mode) j k = kd at *
  simp only [List.mem_cons, List.mem_nil_iff, or_false] at km
  have slotcase : kd = [115, 101, 116] ∨ kd = [116, 101, 115, 116] ∨ kd = [97, 115, 107] → (genSlots ds).nth (dr ds (a + 3) % (genSlots ds).length) ([], []) ∈ genSlots ds := fun h => by
    refine nth_mem (mod_lt ?_)
    rcases Nat.eq_zero_or_pos (genSlots ds).length with h0 | h0
    · have := ks h0
      rcases h with h | h | h
      · exact absurd h this.1
      · exact absurd h this.2.1
      · exact absurd h this.2.2
    · exact h0
  rcases km with rfl | rfl | rfl | rfl | rfl | rfl | rfl | rfl
  · obtain ⟨pl, h1, h2⟩ := genSaid_ok (ds := ds) hT (a + 3)
    have t1 := T (a + 1) _ hf
    rw [if_pos rfl]
    exact ⟨.say nw h1 (wn.1 _ t1), fun ch main _ => .say h1 h2 t1⟩
  · have t1 := T (a + 1) _ hf
    rw [if_neg (by decide), if_pos rfl]
    exact ⟨.go nw (wn.1 _ t1), fun ch main _ => .go t1⟩
  · have t1 := T (a + 1) _ hf
    have sm := slotcase (by simp)
    have sok := (so.2.1 _ sm).1
    rw [if_neg (by decide), if_neg (by decide), if_neg (by decide), if_neg (by decide), if_neg (by decide), if_pos rfl, sb]
    generalize (genSlots ds).nth (dr ds (a + 3) % (genSlots ds).length) ([], []) = slot at *
    have cm : ([] :: slot.2).nth (dr ds (a + 4) % (slot.2.length + 1)) [] ∈ [] :: slot.2 := nth_mem (by rw [List.length_cons]; exact mod_lt (by omega))
    have cm : ([] :: slot.2).nth (dr ds (a + 4) % (slot.2.length + 1)) [] = [] ∨ ([] :: slot.2).nth (dr ds (a + 4) % (slot.2.length + 1)) [] ∈ slot.2 := List.mem_cons.mp cm
    exact ⟨.set nw sok.nm (cm.imp id fun h => sok.ws _ h) (wn.1 _ t1), fun ch main _ => .set (ws := slot.2) sm cm t1⟩
  · have t1 := T (a + 1) _ hf
    have t2 := T (a + 2) _ hf
    have sm := slotcase (by simp)
    have sok := (so.2.1 _ sm).1
    rw [if_neg (by decide), if_neg (by decide), if_neg (by decide), if_neg (by decide), if_neg (by decide), if_neg (by decide), if_pos rfl, sb]
    generalize (genSlots ds).nth (dr ds (a + 3) % (genSlots ds).length) ([], []) = slot at *
    have cm : ([] :: slot.2).nth (dr ds (a + 4) % (slot.2.length + 1)) [] ∈ [] :: slot.2 := nth_mem (by rw [List.length_cons]; exact mod_lt (by omega))
    have cm : ([] :: slot.2).nth (dr ds (a + 4) % (slot.2.length + 1)) [] = [] ∨ ([] :: slot.2).nth (dr ds (a + 4) % (slot.2.length + 1)) [] ∈ slot.2 := List.mem_cons.mp cm
    exact ⟨.test nw sok.nm (cm.imp id fun h => sok.ws _ h) (wn.1 _ t1) (wn.1 _ t2), fun ch main _ => .test (ws := slot.2) sm cm t1 t2⟩
  · have t1 := T (a + 1) _ hf
    have t2 := T (a + 2) _ hf
    have sm := slotcase (by simp)
    have sok := (so.2.1 _ sm).1
    rw [if_neg (by decide), if_neg (by decide), if_neg (by decide), if_neg (by decide), if_neg (by decide), if_neg (by decide), if_neg (by decide), sb]
    generalize (genSlots ds).nth (dr ds (a + 3) % (genSlots ds).length) ([], []) = slot at *
    have hx : dr ds (a + 5) % 3 < 3 := mod_lt (by decide)
    have fx : ∃ fx, [[], [slot.1], (genSlots ds).map (·.1)].nth (dr ds (a + 5) % 3) [] = fx ∧ fx.Nodup ∧ fx.length ≤ 4 ∧ ∀ f ∈ fx, f ∈ (genSlots ds).map (·.1) := by
      rcases (show dr ds (a + 5) % 3 = 0 ∨ dr ds (a + 5) % 3 = 1 ∨ dr ds (a + 5) % 3 = 2 by omega) with h | h | h
      · rw [h]; exact ⟨[], rfl, by simp, by simp, by simp⟩
      · rw [h]; exact ⟨[slot.1], rfl, by simp, by simp, by intro f hf; simp at hf; subst hf; exact List.mem_map.mpr ⟨_, sm, rfl⟩⟩
      · rw [h]; exact ⟨(genSlots ds).map (·.1), rfl, so.2.2, by rw [List.length_map]; have := so.1; omega, fun f hf => hf⟩
    obtain ⟨fx, e, f1, f2, f3⟩ := fx
    rw [e]
    have fw : ∀ w ∈ fx, isWord w = true := fun w hw => by
      obtain ⟨s, hs, rfl⟩ := List.mem_map.mp (f3 w hw)
      exact (so.2.1 s hs).1.nm
    exact ⟨.ask nw sok.nm (wn.1 _ t1) (wn.1 _ t2) f1 fw f2, fun ch main _ => .ask (List.mem_map.mpr ⟨_, sm, rfl⟩) t1 t2 f3⟩
  · have pk := genPick_ok (ds := ds) a
    have len : (genArms ds a (genBase ds mode) j k [112, 105, 99, 107] (genPick ds a)).length = (genPick ds a).length := by unfold genArms; simp
    have tg : ∀ x ∈ genArms ds a (genBase ds mode) j k [112, 105, 99, 107] (genPick ds a), x.1 ∈ genPick ds a ∧ x.2 ∈ genName ds j := fun x hx => by
      obtain ⟨i, hi, rfl⟩ := List.mem_map.mp hx
      simp at hi
      exact ⟨nth_mem hi, T _ _ hf⟩
    rw [if_neg (by decide), if_neg (by decide), if_neg (by decide), if_pos rfl]
    exact ⟨.pick nw (by rw [len]; exact pk.2.2.1) (by rw [len]; exact pk.2.2.2) (by rw [genArms_fst]; exact pk.2.1) (fun x hx => ⟨pk.1 _ (tg x hx).1, wn.1 _ (tg x hx).2⟩), fun ch main _ => .pick (by rw [len]; exact pk.2.2.2) fun x hx => (tg x hx).2⟩
  · have cb : genCallee ds a (genBase ds mode) j < genMany ds := by
      unfold genCallee
      split
      · rename_i c; rw [← many]; exact kh c rfl
      · rw [many]; exact mod_lt (by omega)
    generalize genCallee ds a (genBase ds mode) j = c at *
    have bk := genBack_ok (ds := ds) c
    rw [if_neg (by decide), if_neg (by decide), if_neg (by decide), if_neg (by decide), if_pos rfl, gen_backs cb]
    have len : (genArms ds a (genBase ds mode) j k [104, 97, 110, 100] (genBack ds c)).length = (genBack ds c).length := by unfold genArms; simp
    have tg : ∀ x ∈ genArms ds a (genBase ds mode) j k [104, 97, 110, 100] (genBack ds c), x.1 ∈ genBack ds c ∧ x.2 ∈ genName ds j := fun x hx => by
      obtain ⟨i, hi, rfl⟩ := List.mem_map.mp hx
      simp at hi
      exact ⟨nth_mem hi, T _ _ hf⟩
    have cw : isWord ((genBase ds mode).charts.nth c []) = true := by
      have key : ∀ x < 3, ∀ w ∈ chartNames.nth x [], isWord w = true := by decide
      exact key (dr ds 5 % 3) (mod_lt (by decide)) _ (List.mem_of_mem_take (nth_mem (l := (genBase ds mode).charts) (by rw [many]; exact cb)))
    refine ⟨.hand nw cw (by rw [len]; omega) (by rw [genArms_fst]; exact bk.2.1) (fun x hx => ⟨bk.1 _ (tg x hx).1, wn.1 _ (tg x hx).2⟩), fun ch main hch => ?_⟩
    obtain ⟨nodes, h1, h2⟩ := hch c cb
    exact .hand h1 (by rw [genArms_fst, h2]) (fun x hx => bk.1 _ (tg x hx).1) (by rw [len]; omega) fun x hx => (tg x hx).2
  · rw [if_neg (by decide), if_neg (by decide), if_pos rfl]
    exact ⟨.fin nw (endWord_ok _), fun ch main _ => .fin⟩
theorem backKeys_app : ∀ (l r : List Nd) (ks : List S), backKeys ks (l ++ r) = backKeys (backKeys ks l) r
  | [], _, _ => rfl
  | d :: l, r, ks => by cases d <;> exact backKeys_app l r _
theorem addS_new {w : S} : ∀ {ks : List S}, w ∉ ks → addS w ks = ks ++ [w]
  | [], _ => rfl
  | k :: ks, h => by
    rw [List.mem_cons, not_or] at h
    unfold addS
    rw [if_neg (fun e => h.1 e.symm), addS_new h.2]; rfl
theorem keys_backs (f : S → S) : ∀ (l : List S) (ks : List S), (ks ++ l).Nodup → ∀ g : Nat → S, backKeys ks ((List.range l.length).map fun i => Nd.back (g i) (l.nth i [])) = ks ++ l := by
  intro l
  induction l with
  | nil => intro ks _ g; simp [backKeys]
  | cons w l ih =>
    intro ks hd g
    have hw : w ∉ ks := fun h => (List.nodup_append.mp hd).2.2 w h w List.mem_cons_self rfl
    rw [List.length_cons, List.range_succ_eq_map, List.map_cons, List.map_map]
    show backKeys (addS w ks) ((List.range l.length).map fun i => Nd.back (g (i + 1)) (l.nth i [])) = _
    rw [addS_new hw, ih (ks ++ [w]) (by rw [List.append_assoc]; exact hd) (fun i => g (i + 1)), List.append_assoc]
    rfl
theorem genChart_backs {j : Nat} (hj : j < genMany ds) : backsOf (genChart ds (genBase ds mode) j).2 = genBack ds j := by
  unfold backsOf genChart
  simp only [gen_names hj, gen_counts hj]
  have nb : backKeys [] ((List.range (genCount ds j)).map fun k => genNode ds (12 + 24 * j + 6 * k) (genBase ds mode) j k) = [] := backKeys_none fun d hd n w e => by
    obtain ⟨k, _, rfl⟩ := List.mem_map.mp hd
    exact genNode_notback _ _ _ _ n w e
  rw [backKeys_app, nb]
  have bo := genBack_ok (ds := ds) j
  have el : (genName ds j).length - genCount ds j = genExtra ds j := by rw [genName_len]; omega
  rw [el]
  by_cases h0 : j = 0
  · have : backKeys [] ((List.range (genExtra ds j)).map (genRest ds (genBase ds mode) j)) = [] := backKeys_none fun d hd n w e => by
      obtain ⟨k, _, rfl⟩ := List.mem_map.mp hd
      unfold genRest at e
      rw [if_pos h0] at e
      cases e
    rw [this]
    unfold genBack
    rw [if_neg (by omega)]
    rfl
  · have ex : genExtra ds j = (genBack ds j).length := by unfold genExtra; rw [if_pos (by omega)]
    have := keys_backs id (genBack ds j) [] (by simpa using bo.2.1) (fun i => ((genName ds j).drop (genCount ds j)).nth i [])
    rw [ex]
    have e2 : (List.range (genBack ds j).length).map (genRest ds (genBase ds mode) j) = (List.range (genBack ds j).length).map fun i => Nd.back (((genName ds j).drop (genCount ds j)).nth i []) ((genBack ds j).nth i []) := by
      apply List.map_congr_left
      intro i _
      unfold genRest
      simp only [gen_names hj, gen_counts hj, gen_backs hj]
      rw [if_neg h0]
    rw [e2, this, List.nil_append]
    exact bo.2.2.1
theorem genRest_name {j i : Nat} (hj : j < genMany ds) : (genRest ds (genBase ds mode) j i).name = ((genName ds j).drop (genCount ds j)).nth i [] := by
  unfold genRest
  simp only [gen_names hj, gen_counts hj]
  split <;> rfl
theorem map_nth {α : Type} (z : α) (l : List α) : (List.range l.length).map (fun i => l.nth i z) = l := by
  have := map_range_nth (fun s : α => s) z l
  rwa [List.map_id'] at this
theorem nth_take {α : Type} {z : α} {l : List α} {n k : Nat} (h : k < n) : l.nth k z = (l.take n).nth k z := by
  unfold List.nth
  rw [List.getD_eq_getElem?_getD, List.getD_eq_getElem?_getD, List.getElem?_take_of_lt h]
theorem genChart_names {j : Nat} (hj : j < genMany ds) : (genChart ds (genBase ds mode) j).2.map Nd.name = genName ds j := by
  unfold genChart
  simp only [gen_names hj, gen_counts hj]
  rw [List.map_append, List.map_map, List.map_map]
  have hc : genCount ds j ≤ (genName ds j).length := by rw [genName_len]; omega
  have e1 : (List.range (genCount ds j)).map (Nd.name ∘ fun k => genNode ds (12 + 24 * j + 6 * k) (genBase ds mode) j k) = (genName ds j).take (genCount ds j) := by
    have := map_nth [] ((genName ds j).take (genCount ds j))
    rw [List.length_take, Nat.min_eq_left hc] at this
    rw [← this]
    apply List.map_congr_left
    intro k hk
    simp at hk
    show (genNode ds _ _ j k).name = _
    rw [genNode_name, gen_names hj, nth_take hk]
  have e2 : (List.range ((genName ds j).length - genCount ds j)).map (Nd.name ∘ genRest ds (genBase ds mode) j) = (genName ds j).drop (genCount ds j) := by
    have := map_nth [] ((genName ds j).drop (genCount ds j))
    rw [List.length_drop] at this
    rw [← this]
    apply List.map_congr_left
    intro k hk
    show (genRest ds _ j k).name = _
    rw [genRest_name hj]
  rw [e1, e2, List.take_append_drop]
include hm in
/-- the drawn slots and charts make a house -/
theorem gen_ok (hT : TextsOk C [[116, 111, 119, 110], [100]]) : HouseOk C (genSlots ds) (genCharts ds mode) := by
  have so := genSlots_ok ds
  have many : (genBase ds mode).charts.length = genMany ds := gen_many
  have gm := genMany_le ds
  have g1 : 1 ≤ genMany ds := by unfold genMany; omega
  have len : (genCharts ds mode).length = genMany ds := by unfold genCharts; simp [many]
  have ch : ∀ c ∈ genCharts ds mode, ∃ j, j < genMany ds ∧ c = genChart ds (genBase ds mode) j := fun c hc => by
    obtain ⟨j, hj, rfl⟩ := List.mem_map.mp hc
    simp [many] at hj
    exact ⟨j, hj, rfl⟩
  have nms : (genCharts ds mode).map (·.1) = (genBase ds mode).charts := by
    unfold genCharts
    rw [List.map_map]
    exact map_nth [] (genBase ds mode).charts
  have hch : ∀ c, c < genMany ds → ∃ nodes, ((genBase ds mode).charts.nth c [], nodes) ∈ genCharts ds mode ∧ backsOf nodes = genBack ds c := fun c hc =>
    ⟨(genChart ds (genBase ds mode) c).2, List.mem_map.mpr ⟨c, by simp [many]; exact hc, rfl⟩, genChart_backs hc⟩
  have rest : ∀ {j : Nat} {d : Nd}, j < genMany ds → d ∈ (genChart ds (genBase ds mode) j).2 → (∃ k, k < genCount ds j ∧ d = genNode ds (12 + 24 * j + 6 * k) (genBase ds mode) j k) ∨ (∃ i, i < genExtra ds j ∧ d = genRest ds (genBase ds mode) j i) := fun {j d} hj hd => by
    unfold genChart at hd
    simp only [gen_names hj, gen_counts hj] at hd
    rcases List.mem_append.mp hd with h | h
    · obtain ⟨k, hk, rfl⟩ := List.mem_map.mp h
      simp at hk
      exact .inl ⟨k, hk, rfl⟩
    · obtain ⟨i, hi, rfl⟩ := List.mem_map.mp h
      rw [genName_len] at hi
      simp at hi
      exact .inr ⟨i, hi, rfl⟩
  have rnm : ∀ {j i : Nat}, j < genMany ds → i < genExtra ds j → isWord (((genName ds j).drop (genCount ds j)).nth i []) = true := fun {j i} hj hi =>
    (genName_ok ds j).1 _ (List.mem_of_mem_drop (nth_mem (by rw [List.length_drop, genName_len]; omega)))
  refine ⟨by have := so.1; omega, fun s hs => (so.2.1 s hs).1, so.2.2, by rw [len]; exact g1, by rw [len]; omega, fun c hc => ?_, ?_, ?_⟩
  · obtain ⟨j, hj, rfl⟩ := ch c hc
    have nl : (genChart ds (genBase ds mode) j).2.length = genCount ds j + genExtra ds j := by
      have := congrArg List.length (genChart_names (ds := ds) (mode := mode) hj)
      rw [List.length_map, genName_len] at this
      exact this
    have gc := genCount_le ds j
    have ge := genExtra_le ds j
    refine ⟨?_, fun d hd => ?_, by rw [genChart_names hj]; exact (genName_ok ds j).2, by rw [nl]; omega, by rw [nl]; omega⟩
    · have key : ∀ x < 3, ∀ w ∈ chartNames.nth x [], isWord w = true := by decide
      exact key (dr ds 5 % 3) (mod_lt (by decide)) _ (List.mem_of_mem_take (nth_mem (l := (genBase ds mode).charts) (by rw [many]; exact hj)))
    · rcases rest hj hd with ⟨k, hk, rfl⟩ | ⟨i, hi, rfl⟩
      · exact (genNode_ok hm hT hj hk).1
      · have w := rnm hj hi
        unfold genRest
        simp only [gen_names hj, gen_counts hj, gen_backs hj]
        split
        · exact .fin w (endWord_ok _)
        · rename_i h0
          exact .back w ((genBack_ok (ds := ds) j).1 _ (nth_mem (by unfold genExtra at hi; rw [if_pos (by omega)] at hi; exact hi)))
  · rw [nms]
    have key : ∀ x < 3, (chartNames.nth x []).Nodup := by decide
    exact (key (dr ds 5 % 3) (mod_lt (by decide))).sublist (List.take_sublist _ _)
  · intro j c hj d hd
    have hjl : j < genMany ds := by rw [← len]; exact (List.getElem?_eq_some_iff.mp hj).1
    have hc : c = genChart ds (genBase ds mode) j := by
      unfold genCharts at hj
      rw [List.getElem?_map, List.getElem?_range (by rw [many]; exact hjl)] at hj
      exact (Option.some.inj hj).symm
    subst hc
    rw [genChart_names hjl]
    rcases rest hjl hd with ⟨k, hk, rfl⟩ | ⟨i, hi, rfl⟩
    · exact (genNode_ok hm hT hjl hk).2 _ _ hch
    · unfold genRest
      simp only
      split
      · exact .fin
      · rename_i h0
        exact .back (by rw [beq_eq_false_iff_ne]; exact h0)
end
end Tk.K61
/- Mr -/
set_option Elab.async false
set_option linter.all false
set_option maxRecDepth 100000
set_option maxHeartbeats 0
namespace Tk.K61
open Tk Tk.WP Tk.Md
/-! ### renaming -/
def newS : List (S × S) → S → S
  | [], x => x
  | r :: rs, x => if r.1 = x then r.2 else newS rs x
def newNd (rs rc : List (S × S)) (tx : S → S) : Nd → Nd
  | .say n t x => .say n (tx t) x
  | .go n x => .go n x
  | .set n s c x => .set n (newS rs s) c x
  | .test n s c y z => .test n (newS rs s) c y z
  | .ask n s h m fx => .ask n (newS rs s) h m (fx.map (newS rs))
  | .pick n arms => .pick n arms
  | .hand n c arms => .hand n (newS rc c) arms
  | .back n w => .back n w
  | .fin n o => .fin n o
def newSlot (rs : List (S × S)) (s : Slot) : Slot := (newS rs s.1, s.2)
def newChart (rs rc : List (S × S)) (tx : S → S) (c : Chart) : Chart := (newS rc c.1, c.2.map (newNd rs rc tx))
def eRows (r : List (S × S)) : D := .lst (r.map eArm)
variable {C : Nat → CallFn} (hC : Lvl PG C)
include hC
theorem law_new_ok (n : Nat) {r : List (S × S)} {x : S} (ob : List Ob) : C (n + 2) f__law_new [eRows r, .str x] ob = .ok (.val (.str (newS r x))) ob := by
  rw [hC.eq (Fn := c__law_new) rfl]
  simp [c__law_new, eRows]
  apply outR_of
  simp only [post_then]
  apply floop_post (I := fun q S => (∃ j, S = ⟨[some (.val (eRows r)), some (.val (.str x)), j], ob⟩) ∧ newS r x = newS q x)
  · exact ⟨⟨_, rfl⟩, rfl⟩
  · rintro t q S ⟨⟨j, rfl⟩, h⟩
    by_cases h1 : t.1 = x
    · simp [forBody, eArm, h1, h, newS]
    · simp [forBody, eArm, h1, h, newS]
  · rintro S ⟨⟨j, rfl⟩, h⟩
    simp [h, newS]
theorem law_new_node_ok (n : Nat) {rs rc : List (S × S)} {tx : S → S} {d : Nd} (hd : NdOk C d) (ht : ∀ nm t x, d = .say nm t x → ∀ n ob, C (n + 3) f__law_new_text [eRows rs, .str t] ob = .ok (.val (.str (tx t))) ob) (ob : List Ob) :
    C (n + 4) f__law_new_node [eRows rs, eRows rc, d.enc] ob = .ok (.val (newNd rs rc tx d).enc) ob := by
  rw [hC.eq (Fn := c__law_new_node) rfl]
  have N := fun r x => law_new_ok hC (n + 1) (r := r) (x := x) ob
  have i2 : ∀ q : S, doIn (.val (.str q)) (.lst [.val (.str [115, 101, 116]), .val (.str [116, 101, 115, 116])]) = some (decide (q = [115, 101, 116] ∨ q = [116, 101, 115, 116])) := fun q => by
    have := in_mlst_strs (s := q) (l := [[115, 101, 116], [116, 101, 115, 116]])
    simpa using this
  cases hd with
  | @say nm t x pl h1 h2 h3 =>
    have := ht nm t x rfl n ob
    simp [c__law_new_node, Nd.enc, newNd, this]
  | @set nm s c x h1 h2 h3 h4 =>
    have e1 : (M.val (.tup [.str [115, 101, 116], .str nm, .str s, .str c, .str x])).slc none (some 2) = some (.val (.tup [.str [115, 101, 116], .str nm])) := rfl
    have e2 : (M.val (.tup [.str [115, 101, 116], .str nm, .str s, .str c, .str x])).slc (some 3) none = some (.val (.tup [.str c, .str x])) := rfl
    simp [c__law_new_node, Nd.enc, newNd, i2, e1, e2, N, doAdd, M.asInt, M.asStr]
  | @test nm s c y z h1 h2 h3 h4 h5 =>
    have e1 : (M.val (.tup [.str [116, 101, 115, 116], .str nm, .str s, .str c, .str y, .str z])).slc none (some 2) = some (.val (.tup [.str [116, 101, 115, 116], .str nm])) := rfl
    have e2 : (M.val (.tup [.str [116, 101, 115, 116], .str nm, .str s, .str c, .str y, .str z])).slc (some 3) none = some (.val (.tup [.str c, .str y, .str z])) := rfl
    simp [c__law_new_node, Nd.enc, newNd, i2, e1, e2, N, doAdd, M.asInt, M.asStr]
  | @ask nm s h m fx h1 h2 h3 h4 h5 h6 h7 =>
    have fl : fx.length ≤ 16777216 := by omega
    have it : (M.val (eWs fx)).items = some (fx.map .str) := rfl
    simp [c__law_new_node, Nd.enc, newNd, i2, N, it]
    rw [cloop_map (g := fun w : S => .val (.str (newS rs w)))]
    rotate_left
    · intro w hw
      simp [compBody, N]
    · simp [fl, N, eWs, Function.comp_def]
  | hand h1 h2 h3 h4 h5 => simp [c__law_new_node, Nd.enc, newNd, i2, N]
  | go h1 h2 => simp [c__law_new_node, Nd.enc, newNd, i2]
  | pick h1 h2 h3 h4 h5 => simp [c__law_new_node, Nd.enc, newNd, i2]
  | back h1 h2 => simp [c__law_new_node, Nd.enc, newNd, i2]
  | fin h1 h2 => simp [c__law_new_node, Nd.enc, newNd, i2]
theorem law_renamed_ok (n : Nat) {rs rc : List (S × S)} {tx : S → S} {sl : List Slot} {ch : List Chart} (H : HouseOk C sl ch)
    (ht : ∀ c ∈ ch, ∀ nm t x, Nd.say nm t x ∈ c.2 → ∀ n ob, C (n + 3) f__law_new_text [eRows rs, .str t] ob = .ok (.val (.str (tx t))) ob) (ob : List Ob) :
    C (n + 5) f__law_renamed [ePair sl ch, eRows rs, eRows rc] ob = .ok (.val (ePair (sl.map (newSlot rs)) (ch.map (newChart rs rc tx)))) ob := by
  rw [hC.eq (Fn := c__law_renamed) rfl]
  have N := fun r x => law_new_ok hC (n + 2) (r := r) (x := x) ob
  have i1 : (M.val (eSlots sl)).items = some (sl.map eSlot) := rfl
  have i2 : (M.val (eCharts ch)).items = some (ch.map eChart) := rfl
  have s4 : sl.length ≤ 16777216 := by have := H.s4; omega
  have c6 := H.c6
  simp [c__law_renamed, ePair, i2]
  apply outR_of
  simp only [post_then]
  apply floop_pre (I := fun pre S => ∃ j k l, S = ⟨[some (.val (ePair sl ch)), some (.val (eRows rs)), some (.val (eRows rc)), some (.lst (pre.map fun c => .val (eChart (newChart rs rc tx c)))), j, k, l, none], ob⟩)
  · exact ⟨_, _, _, rfl⟩
  · rintro pre x r S e ⟨j, k, l, rfl⟩
    have hm : x ∈ ch := by rw [e]; simp
    have hx := H.co x hm
    have g1 := pre_len e
    have g2 : pre.length < 16777216 := by omega
    have g3 : x.2.length ≤ 16777216 := by have := hx.l4; omega
    simp [forBody, eChart]
    rw [cloop_map (g := fun d : Nd => .val (newNd rs rc tx d).enc)]
    rotate_left
    · intro d hd
      have := law_new_node_ok hC n (rc := rc) (tx := tx) (hx.ns d hd) (fun nm t x e => ht _ hm nm t x (e ▸ hd)) ob
      simp [compBody, this]
    · simp [g2, g3, N, newChart, Function.comp_def]
  · rintro S ⟨j, k, l, rfl⟩
    simp [ePair, i1]
    rw [cloop_map (g := fun s : Slot => .val (eSlot (newSlot rs s)))]
    rotate_left
    · intro s hs
      simp [compBody, eSlot, N, newSlot]
    · simp [s4, eSlots, eCharts, Function.comp_def]
omit hC in
theorem newNd_name (rs rc : List (S × S)) (tx : S → S) (d : Nd) : (newNd rs rc tx d).name = d.name := by cases d <;> rfl
omit hC in
theorem newNd_names (rs rc : List (S × S)) (tx : S → S) (l : List Nd) : (l.map (newNd rs rc tx)).map Nd.name = l.map Nd.name := by
  rw [List.map_map]; exact List.map_congr_left fun d _ => newNd_name rs rc tx d
omit hC in
theorem newNd_keys (rs rc : List (S × S)) (tx : S → S) : ∀ (l : List Nd) (ks : List S), backKeys ks (l.map (newNd rs rc tx)) = backKeys ks l
  | [], _ => rfl
  | d :: l, ks => by cases d <;> exact newNd_keys rs rc tx l _
omit hC in
theorem newNd_backs (rs rc : List (S × S)) (tx : S → S) (l : List Nd) : backsOf (l.map (newNd rs rc tx)) = backsOf l := by
  unfold backsOf; rw [newNd_keys]
omit hC in
theorem inj_nodup {f : S → S} {l : List S} (h : l.Nodup) (hi : ∀ x ∈ l, ∀ y ∈ l, f x = f y → x = y) : (l.map f).Nodup := by
  induction l with
  | nil => simp
  | cons a l ih =>
    rw [List.nodup_cons] at h
    rw [List.map_cons, List.nodup_cons]
    refine ⟨fun hm => ?_, ih h.2 fun x hx y hy => hi x (List.mem_cons_of_mem _ hx) y (List.mem_cons_of_mem _ hy)⟩
    obtain ⟨b, hb, e⟩ := List.mem_map.mp hm
    have := hi b (List.mem_cons_of_mem _ hb) a List.mem_cons_self e
    exact h.1 (this ▸ hb)
omit hC in
/-- the renamed slots and charts make a house -/
theorem rename_ok {rs rc : List (S × S)} {tx : S → S} {sl : List Slot} {ch : List Chart} (H : HouseOk C sl ch) (hsw : ∀ s ∈ sl.map (·.1), isWord (newS rs s) = true) (hsi : ∀ x ∈ sl.map (·.1), ∀ y ∈ sl.map (·.1), newS rs x = newS rs y → x = y)
    (hcw : ∀ c ∈ ch.map (·.1), isWord (newS rc c) = true) (hci : ∀ x ∈ ch.map (·.1), ∀ y ∈ ch.map (·.1), newS rc x = newS rc y → x = y)
    (ht : ∀ c ∈ ch, ∀ nm t x, Nd.say nm t x ∈ c.2 → ∃ pl, TextOk C (tx t) pl ∧ ∀ s ∈ pl, s ∈ (sl.map (newSlot rs)).map (·.1)) : HouseOk C (sl.map (newSlot rs)) (ch.map (newChart rs rc tx)) := by
  have snm : (sl.map (newSlot rs)).map (·.1) = (sl.map (·.1)).map (newS rs) := by rw [List.map_map, List.map_map]; rfl
  have cnm : (ch.map (newChart rs rc tx)).map (·.1) = (ch.map (·.1)).map (newS rc) := by rw [List.map_map, List.map_map]; rfl
  have sin : ∀ s, s ∈ sl.map (·.1) → newS rs s ∈ (sl.map (newSlot rs)).map (·.1) := fun s hs => by rw [snm]; exact List.mem_map_of_mem hs
  refine ⟨by rw [List.length_map]; exact H.s4, fun s hs => ?_, by rw [snm]; exact inj_nodup H.sd hsi, by rw [List.length_map]; exact H.c1, by rw [List.length_map]; exact H.c6, fun c hc => ?_, by rw [cnm]; exact inj_nodup H.cd hci, ?_⟩
  · obtain ⟨s, h, rfl⟩ := List.mem_map.mp hs
    have so := H.so s h
    exact ⟨hsw _ (List.mem_map_of_mem h), so.ws, so.nd, so.l1, so.l4⟩
  · obtain ⟨x, hx, rfl⟩ := List.mem_map.mp hc
    have co := H.co x hx
    refine ⟨hcw _ (List.mem_map_of_mem hx), fun d hd => ?_, by show ((x.2.map _).map _).Nodup; rw [newNd_names]; exact co.nd, by show 1 ≤ (x.2.map _).length; rw [List.length_map]; exact co.l1, by show (x.2.map _).length ≤ 40; rw [List.length_map]; exact co.l4⟩
    obtain ⟨e, he, rfl⟩ := List.mem_map.mp hd
    have ne := co.ns e he
    obtain ⟨j, hj⟩ := List.getElem?_of_mem hx
    have le := H.lk j x hj e he
    cases ne with
    | @say n t y pl h1 h2 h3 =>
      obtain ⟨pl', h4, _⟩ := ht x hx n t y he
      exact .say h1 h4 h3
    | go h1 h2 => exact .go h1 h2
    | set h1 h2 h3 h4 =>
      cases le with
      | set l1 l2 l3 => exact .set h1 (hsw _ (List.mem_map.mpr ⟨_, l1, rfl⟩)) h3 h4
    | test h1 h2 h3 h4 h5 =>
      cases le with
      | test l1 l2 l3 l4 => exact .test h1 (hsw _ (List.mem_map.mpr ⟨_, l1, rfl⟩)) h3 h4 h5
    | ask h1 h2 h3 h4 h5 h6 h7 =>
      cases le with
      | ask l1 l2 l3 l4 =>
        refine .ask h1 (hsw _ l1) h3 h4 (inj_nodup h5 fun a ha b hb => hsi a (l4 a ha) b (l4 b hb)) (fun w hw => ?_) (by rw [List.length_map]; exact h7)
        obtain ⟨f, hf, rfl⟩ := List.mem_map.mp hw
        exact hsw _ (l4 f hf)
    | pick h1 h2 h3 h4 h5 => exact .pick h1 h2 h3 h4 h5
    | hand h1 h2 h3 h4 h5 =>
      cases le with
      | hand l1 l2 l3 l4 l5 => exact .hand h1 (hcw _ (List.mem_map.mpr ⟨_, l1, rfl⟩)) h3 h4 h5
    | back h1 h2 => exact .back h1 h2
    | fin h1 h2 => exact .fin h1 h2
  · intro j c hj d hd
    rw [List.getElem?_map] at hj
    obtain ⟨x, hx, rfl⟩ := Option.map_eq_some_iff.mp hj
    have hxm : x ∈ ch := List.mem_of_getElem? hx
    obtain ⟨e, he, rfl⟩ := List.mem_map.mp hd
    have le := H.lk j x hx e he
    have hnm : (newChart rs rc tx x).2.map Nd.name = x.2.map Nd.name := newNd_names rs rc tx x.2
    rw [hnm]
    cases le with
    | @say n t y pl h1 h2 h3 =>
      obtain ⟨pl', h4, h5⟩ := ht x hxm n t y he
      exact .say h4 h5 h3
    | go h1 => exact .go h1
    | set h1 h2 h3 => exact .set (List.mem_map.mpr ⟨_, h1, rfl⟩) h2 h3
    | test h1 h2 h3 h4 => exact .test (List.mem_map.mpr ⟨_, h1, rfl⟩) h2 h3 h4
    | ask h1 h2 h3 h4 =>
      refine .ask (sin _ h1) h2 h3 fun f hf => ?_
      obtain ⟨g, hg, rfl⟩ := List.mem_map.mp hf
      exact sin _ (h4 g hg)
    | pick h1 h2 => exact .pick h1 h2
    | @hand n' c' arms nodes h1 h2 h3 h4 h5 => exact .hand (nodes := nodes.map (newNd rs rc tx)) (List.mem_map.mpr ⟨_, h1, rfl⟩) (by rw [newNd_backs]; exact h2) h3 h4 h5
    | back h1 => exact .back h1
    | fin => exact .fin
end Tk.K61
/- M61 -/
set_option Elab.async false
set_option linter.all false
set_option maxRecDepth 100000
set_option maxHeartbeats 0
namespace Tk.K61
open Tk Tk.WP Tk.Md
/-! ### law k61 -/
theorem link_mono {C : Nat → CallFn} {sl sl' : List Slot} {ch ch' : List Chart} {names : List S} {m : Bool} {d : Nd} (h : LinkOk C sl ch names m d) (hs : ∀ s ∈ sl, s ∈ sl') (hc : ∀ c ∈ ch, c ∈ ch') : LinkOk C sl' ch' names m d := by
  have hs' : ∀ s ∈ sl.map (·.1), s ∈ sl'.map (·.1) := fun s h => by
    obtain ⟨x, hx, rfl⟩ := List.mem_map.mp h
    exact List.mem_map_of_mem (hs x hx)
  cases h with
  | say h1 h2 h3 => exact .say h1 (fun s h => hs' s (h2 s h)) h3
  | go h1 => exact .go h1
  | set h1 h2 h3 => exact .set (hs _ h1) h2 h3
  | test h1 h2 h3 h4 => exact .test (hs _ h1) h2 h3 h4
  | ask h1 h2 h3 h4 => exact .ask (hs' _ h1) h2 h3 fun f hf => hs' f (h4 f hf)
  | pick h1 h2 => exact .pick h1 h2
  | hand h1 h2 h3 h4 h5 => exact .hand (hc _ h1) h2 h3 h4 h5
  | back h1 => exact .back h1
  | fin => exact .fin
def xsL : List Slot := [([101, 49], [[120], [121]]), ([101, 50], [[120]])]
def ysL : List Chart := [([112, 49], [.fin [122] [100, 111, 110, 101]]), ([112, 50], [.go [97] [97]]), ([112, 51], [.back [98] [111, 107]])]
theorem xs_ok : ∀ s ∈ xsL, SlotOk s := by
  intro s hs
  simp only [xsL, List.mem_cons, List.mem_nil_iff, or_false] at hs
  rcases hs with rfl | rfl <;> exact ⟨by decide, by decide, by decide, by decide, by decide⟩
theorem ys_ok {C : Nat → CallFn} : ∀ c ∈ ysL, ChartOk C c := by
  intro s hs
  simp only [ysL, List.mem_cons, List.mem_nil_iff, or_false] at hs
  rcases hs with rfl | rfl | rfl
  · exact ⟨by decide, by intro d hd; simp at hd; subst hd; exact .fin (by decide) (by decide), by decide, by decide, by decide⟩
  · exact ⟨by decide, by intro d hd; simp at hd; subst hd; exact .go (by decide) (by decide), by decide, by decide, by decide⟩
  · exact ⟨by decide, by intro d hd; simp at hd; subst hd; exact .back (by decide) (by decide), by decide, by decide, by decide⟩
theorem extend_ok {C : Nat → CallFn} {sl : List Slot} {ch : List Chart} (H : HouseOk C sl ch) (h2 : sl.length ≤ 2) (h3 : ch.length ≤ 3) (hs : ∀ s ∈ sl.map (·.1), s ∈ [[116, 111, 119, 110], [100]]) (hc : ∀ c ∈ ch.map (·.1), c ∈ [[109, 97, 105, 110], [100, 101, 115, 107], [99]]) (a b : Nat) :
    HouseOk C (sl ++ xsL.take a) (ch ++ ysL.take b) := by
  have tx : (xsL.take a).length ≤ 2 := by rw [List.length_take]; exact Nat.min_le_right _ _
  have ty : (ysL.take b).length ≤ 3 := by rw [List.length_take]; exact Nat.min_le_right _ _
  have mx : ∀ s ∈ xsL.take a, s ∈ xsL := fun s h => List.mem_of_mem_take h
  have my : ∀ s ∈ ysL.take b, s ∈ ysL := fun s h => List.mem_of_mem_take h
  refine ⟨by rw [List.length_append]; omega, fun s h => ?_, ?_, by rw [List.length_append]; have := H.c1; omega, by rw [List.length_append]; omega, fun c h => ?_, ?_, fun j c hj d hd => ?_⟩
  · rcases List.mem_append.mp h with h | h
    · exact H.so s h
    · exact xs_ok s (mx s h)
  · rw [List.map_append]
    refine nodup_app H.sd ((show (xsL.map (·.1)).Nodup by decide).sublist ((List.take_sublist _ _).map _)) fun x hx h => ?_
    obtain ⟨y, hy, rfl⟩ := List.mem_map.mp hx
    have h1 := hs _ h
    have h4 := mx y hy
    simp only [xsL, List.mem_cons, List.mem_nil_iff, or_false] at h4
    rcases h4 with rfl | rfl <;> (revert h1; decide)
  · rcases List.mem_append.mp h with h | h
    · exact H.co c h
    · exact ys_ok c (my c h)
  · rw [List.map_append]
    refine nodup_app H.cd ((show (ysL.map (·.1)).Nodup by decide).sublist ((List.take_sublist _ _).map _)) fun x hx h => ?_
    obtain ⟨y, hy, rfl⟩ := List.mem_map.mp hx
    have h1 := hc _ h
    have h4 := my y hy
    simp only [ysL, List.mem_cons, List.mem_nil_iff, or_false] at h4
    rcases h4 with rfl | rfl | rfl <;> (revert h1; decide)
  · by_cases hlt : j < ch.length
    · rw [List.getElem?_append_left hlt] at hj
      exact link_mono (H.lk j c hj d hd) (fun s h => List.mem_append_left _ h) fun c h => List.mem_append_left _ h
    · rw [List.getElem?_append_right (Nat.le_of_not_lt hlt)] at hj
      have hcm := my c (List.mem_of_getElem? hj)
      have hj0 : (j == 0) = false := by rw [beq_eq_false_iff_ne]; have := H.c1; omega
      rw [hj0]
      simp only [ysL, List.mem_cons, List.mem_nil_iff, or_false] at hcm
      rcases hcm with rfl | rfl | rfl
      · simp at hd; subst hd; exact .fin
      · simp at hd; subst hd; exact .go (by decide)
      · simp at hd; subst hd; exact .back rfl
def tailL : List S := [[50], [50], [122], []]
def rsOf (t1 t2 : S) : List (S × S) := [([116, 111, 119, 110], [116, 111, 119, 110] ++ t1), ([100], [100] ++ t2)]
def rcOf (t1 t2 t3 : S) : List (S × S) := [([109, 97, 105, 110], [109, 97, 105, 110] ++ t1), ([100, 101, 115, 107], [100, 101, 115, 107] ++ t2), ([99], [99] ++ t3)]
/-- the texts, with what they become -/
def txL (rs : List (S × S)) : List (S × S) := [(sayText [116, 111, 119, 110], sayText (newS rs [116, 111, 119, 110])), (sayText [100], sayText (newS rs [100])), (orText [116, 111, 119, 110] [116, 111, 119, 110], orText (newS rs [116, 111, 119, 110]) (newS rs [116, 111, 119, 110])), (orText [116, 111, 119, 110] [100], orText (newS rs [116, 111, 119, 110]) (newS rs [100])), (orText [100] [116, 111, 119, 110], orText (newS rs [100]) (newS rs [116, 111, 119, 110])), (orText [100] [100], orText (newS rs [100]) (newS rs [100]))]
def texts0 : List S := plainTexts ++ [sayText [116, 111, 119, 110], sayText [100], orText [116, 111, 119, 110] [116, 111, 119, 110], orText [116, 111, 119, 110] [100], orText [100] [116, 111, 119, 110], orText [100] [100]]
def allNames : List S := [[116, 111, 119, 110], [100], [116, 111, 119, 110, 50], [116, 111, 119, 110, 122], [100, 50], [100, 122]]
/-- what is seen of a few texts -/
structure SeenT (C : Nat → CallFn) : Prop where
  tx : TextsOk C allNames
  nt : ∀ t1 ∈ tailL, ∀ t2 ∈ tailL, ∀ t ∈ texts0, ∀ n ob, C (n + 3) f__law_new_text [eRows (rsOf t1 t2), .str t] ob = .ok (.val (.str (newS (txL (rsOf t1 t2)) t))) ob
theorem TextsOk.sub {C : Nat → CallFn} {a b : List S} (h : TextsOk C a) (hs : ∀ s ∈ b, s ∈ a) : TextsOk C b := ⟨h.pl, fun s hb => h.say s (hs s hb), fun s h1 s0 h2 => h.or_ s (hs s h1) s0 (hs s0 h2)⟩
section
variable {C : Nat → CallFn} {ds : List Nat}
theorem genNode_say {b : Base} {a j k : Nat} {n t x : S} (h : genNode ds a b j k = .say n t x) : t = genSaid ds (a + 3) b.slots := by
  unfold genNode at h
  simp only at h
  split at h
  · cases h; rfl
  · repeat' split at h
    all_goals cases h
theorem gen_say {mode : Nat} {c : Chart} (hc : c ∈ genCharts ds mode) {n t x : S} (h : Nd.say n t x ∈ c.2) : ∃ a, t = genSaid ds a (genSlots ds) := by
  obtain ⟨j, hj, rfl⟩ := List.mem_map.mp hc
  rcases List.mem_append.mp h with h | h
  · obtain ⟨k, _, e⟩ := List.mem_map.mp h
    exact ⟨_, genNode_say e⟩
  · obtain ⟨k, _, e⟩ := List.mem_map.mp h
    unfold genRest at e
    simp only at e
    split at e <;> cases e
theorem said_cases (a : Nat) : genSaid ds a (genSlots ds) ∈ plainTexts ∨ (∃ s ∈ (genSlots ds).map (·.1), genSaid ds a (genSlots ds) = sayText s) ∨ (∃ s ∈ (genSlots ds).map (·.1), ∃ s0 ∈ (genSlots ds).map (·.1), genSaid ds a (genSlots ds) = orText s s0) := by
  unfold genSaid
  split
  · exact .inl (nth_mem (mod_lt (by decide)))
  · rename_i h0
    have hp : 0 < (genSlots ds).length := by omega
    have m1 := nth_mem (z := (([], []) : Slot)) (mod_lt (a := dr ds a) hp)
    have m2 := nth_mem (z := (([], []) : Slot)) hp
    simp only
    have : dr ds a / 2 % 3 < 3 := mod_lt (by decide)
    rcases (show dr ds a / 2 % 3 = 0 ∨ dr ds a / 2 % 3 = 1 ∨ dr ds a / 2 % 3 = 2 by omega) with h | h | h
    · rw [h]; exact .inl (show [72, 105, 46] ∈ plainTexts by decide)
    · rw [h]; exact .inr (.inl ⟨_, List.mem_map_of_mem m1, rfl⟩)
    · rw [h]; exact .inr (.inr ⟨_, List.mem_map_of_mem m1, _, List.mem_map_of_mem m2, rfl⟩)
theorem slot_in : ∀ s ∈ (genSlots ds).map (·.1), s ∈ [[116, 111, 119, 110], [100]] := fun s h => by
  obtain ⟨x, hx, rfl⟩ := List.mem_map.mp h
  exact ((genSlots_ok ds).2.1 x hx).2
theorem said_in (a : Nat) : genSaid ds a (genSlots ds) ∈ texts0 := by
  rcases said_cases (ds := ds) a with h | ⟨s, hs, e⟩ | ⟨s, hs, s0, h0, e⟩
  · exact List.mem_append_left _ h
  · rw [e]
    have := slot_in s hs
    simp only [List.mem_cons, List.mem_nil_iff, or_false] at this
    rcases this with rfl | rfl <;> (unfold texts0; simp)
  · rw [e]
    have h1 := slot_in s hs
    have h2 := slot_in s0 h0
    simp only [List.mem_cons, List.mem_nil_iff, or_false] at h1 h2
    rcases h1 with rfl | rfl <;> rcases h2 with rfl | rfl <;> (unfold texts0; simp)
theorem chart_in {mode : Nat} : ∀ c ∈ (genCharts ds mode).map (·.1), c ∈ [[109, 97, 105, 110], [100, 101, 115, 107], [99]] := fun c h => by
  obtain ⟨x, hx, rfl⟩ := List.mem_map.mp h
  obtain ⟨j, hj, rfl⟩ := List.mem_map.mp hx
  simp at hj
  have key : ∀ x < 3, ∀ w ∈ chartNames.nth x [], w ∈ [[109, 97, 105, 110], [100, 101, 115, 107], [99]] := by decide
  exact key (dr ds 5 % 3) (mod_lt (by decide)) _ (List.mem_of_mem_take (nth_mem (l := (genBase ds mode).charts) hj))
theorem charts_len {mode : Nat} : (genCharts ds mode).length ≤ 3 := by
  unfold genCharts
  rw [List.length_map, List.length_range, gen_many]
  exact genMany_le ds
/-- the second house -/
theorem second_ok (S : SeenT C) {t1 t2 t3 t4 t5 : Md.S} (h1 : t1 ∈ tailL) (h2 : t2 ∈ tailL) (h3 : t3 ∈ tailL) (h4 : t4 ∈ tailL) (h5 : t5 ∈ tailL) :
    HouseOk C ((genSlots ds).map (newSlot (rsOf t1 t2))) ((genCharts ds 0).map (newChart (rsOf t1 t2) (rcOf t3 t4 t5) (newS (txL (rsOf t1 t2))))) := by
  have H := gen_ok (C := C) (ds := ds) (mode := 0) (by decide) (S.tx.sub (by decide))
  have k1 : ∀ t1 ∈ tailL, ∀ t2 ∈ tailL, ∀ s ∈ [[116, 111, 119, 110], [100]], isWord (newS (rsOf t1 t2) s) = true ∧ newS (rsOf t1 t2) s ∈ allNames ∧ ∀ s' ∈ [[116, 111, 119, 110], [100]], newS (rsOf t1 t2) s = newS (rsOf t1 t2) s' → s = s' := by decide
  have k2 : ∀ t1 ∈ tailL, ∀ t2 ∈ tailL, ∀ t3 ∈ tailL, ∀ s ∈ [[109, 97, 105, 110], [100, 101, 115, 107], [99]], isWord (newS (rcOf t1 t2 t3) s) = true ∧ ∀ s' ∈ [[109, 97, 105, 110], [100, 101, 115, 107], [99]], newS (rcOf t1 t2 t3) s = newS (rcOf t1 t2 t3) s' → s = s' := by decide
  have k3 : ∀ t1 ∈ tailL, ∀ t2 ∈ tailL, (∀ t ∈ plainTexts, newS (txL (rsOf t1 t2)) t = t) ∧ (∀ s ∈ [[116, 111, 119, 110], [100]], newS (txL (rsOf t1 t2)) (sayText s) = sayText (newS (rsOf t1 t2) s)) ∧ (∀ s ∈ [[116, 111, 119, 110], [100]], ∀ s0 ∈ [[116, 111, 119, 110], [100]], newS (txL (rsOf t1 t2)) (orText s s0) = orText (newS (rsOf t1 t2) s) (newS (rsOf t1 t2) s0)) := by decide
  have q1 := k1 t1 h1 t2 h2
  have q2 := k2 t3 h3 t4 h4 t5 h5
  obtain ⟨q3, q4, q5⟩ := k3 t1 h1 t2 h2
  refine rename_ok H (fun s hs => (q1 s (slot_in s hs)).1) (fun x hx y hy e => (q1 x (slot_in x hx)).2.2 y (slot_in y hy) e) (fun c hc => (q2 c (chart_in c hc)).1) (fun x hx y hy e => (q2 x (chart_in x hx)).2 y (chart_in y hy) e) ?_
  intro c hc nm t x hm
  obtain ⟨a, rfl⟩ := gen_say hc hm
  have sin : ∀ s ∈ (genSlots ds).map (·.1), newS (rsOf t1 t2) s ∈ ((genSlots ds).map (newSlot (rsOf t1 t2))).map (·.1) := fun s hs => by
    obtain ⟨y, hy, rfl⟩ := List.mem_map.mp hs
    exact List.mem_map.mpr ⟨_, List.mem_map_of_mem hy, rfl⟩
  rcases said_cases (ds := ds) a with h | ⟨s, hs, e⟩ | ⟨s, hs, s0, h0, e⟩
  · rw [q3 _ h]; exact ⟨[], S.tx.pl _ h, by simp⟩
  · rw [e, q4 s (slot_in s hs)]
    exact ⟨_, S.tx.say _ (q1 s (slot_in s hs)).2.1, by intro z hz; simp at hz; subst hz; exact sin s hs⟩
  · rw [e, q5 s (slot_in s hs) s0 (slot_in s0 h0)]
    exact ⟨_, S.tx.or_ _ (q1 s (slot_in s hs)).2.1 _ (q1 s0 (slot_in s0 h0)).2.1, by
      intro z hz; simp at hz
      rcases hz with rfl | rfl
      · exact sin s hs
      · exact sin s0 h0⟩
def endings : List D := [.str [100, 111, 110, 101], .str [108, 101, 102, 116], .str [111, 107], .str [100, 111, 110, 101], .str [108, 101, 102, 116], .str [111, 107], .str [122, 122], .str [], .non, .int 5, .bl true, .tup [.str [100, 111, 110, 101]], .lst [.str [100, 111, 110, 101]], .lst [.str [108, 101, 102, 116]], .tup []]
theorem endings_ok : ∀ k < 15, plnB 64 (endings.nth k .non) = true := by decide +kernel
theorem st_mono {n m : Nat} {d : D} (h : n ≤ m) (hd : stB n d = true) : stB m d = true := by
  induction h with
  | refl => exact hd
  | step _ ih => exact stB_mono _ _ ih
theorem st_pair {sl : List Slot} {ch : List Chart} (H : HouseOk C sl ch) : stB 7 (ePair sl ch) = true := by
  have h1 := st_mono (m := 6) (by decide) (st_slots (by have := H.s4; omega) H.so)
  have h2 := st_charts (by have := H.c6; omega) H.co
  simp [ePair, stB, stBs, h1, h2]
theorem st_due {sl1 sl2 : List Slot} {ch1 ch2 : List Chart} {o : D} (H1 : HouseOk C sl1 ch1) (H2 : HouseOk C sl2 ch2) : stB 7 (dueD sl1 ch1 o sl2 ch2) = true := by
  unfold dueD
  cases q1 : firstIn (sl1.map (·.1)) (sl2.map (·.1)) with
  | some x => simp [stB, stBs]
  | none =>
    cases q2 : firstIn (ch1.map (·.1)) (ch2.map (·.1)) with
    | some x => simp [stB, stBs]
    | none =>
      by_cases h4 : 4 < sl1.length + sl2.length
      · simp [h4, stB, stBs]
      · by_cases h6 : 6 < ch1.length + ch2.length
        · simp [h4, h6, stB, stBs]
        · have H := sewn_ok (o := o) H1 H2 q1 q2 (by omega) (by omega)
          have h1 := st_mono (m := 6) (by decide) (st_slots (by have := H.s4; omega) H.so)
          have h2 := st_charts (by have := H.c6; omega) H.co
          simp [h4, h6, stB, stBs, h1, h2]
end
theorem law_ok {C : Nat → CallFn} (hC : Lvl PG C) (S : SeenT C) (n : Nat) (ns : List Int) (hn : ns.length ≤ 63) : ∃ ob, C (n + 15) f_law [.scr (ns.map .int)] [] = .ok (.val (.bl true)) ob := by
  obtain ⟨ds, dl, dlt, dok⟩ := law_draws_ok hC (n + 11) ns hn 210 (by decide) []
  rw [hC.eq (Fn := c_law) rfl]
  have e1 : (M.lst (ds.map fun r : Nat => .val (.int (r : Int)))).fz = eDr ds := by
    show D.lst (M.fzs _) = _
    rw [fzs_map]; rfl
  have two : (M.val (eDr ds)).slc (some (100 : Int)) none = some (.lst ((ds.drop 100).map fun r : Nat => .val (.int (r : Int)))) := by
    have := slc_lst_from (xs := ds.map fun r : Nat => D.int (r : Int)) (n := 100) (by rw [List.length_map]; omega)
    rw [← List.map_drop, List.map_map] at this
    exact this
  have e2 : (M.lst ((ds.drop 100).map fun r : Nat => .val (.int (r : Int)))).fz = eDr (ds.drop 100) := by
    show D.lst (M.fzs _) = _
    rw [fzs_map]; rfl
  have l2 : (ds.drop 100).length = 110 := by rw [List.length_drop]; omega
  generalize hw : ds.drop 100 = tw at *
  have dok : C (n + 14) f__law_draws [.scr (ns.map .int), .int 210] [] = .ok (.lst (ds.map fun r : Nat => .val (.int (r : Int)))) [] := dok
  have ha : ess PG (C (n + 14)) (C (n + 13)) (c_law.body.take 3) ⟨[some (.val (.scr (ns.map .int))), none, none, none, none, none, none, none, none, none, none, none, none, none, none, none], []⟩ = .ok .nx ⟨[some (.val (.scr (ns.map .int))), some (.val (eDr ds)), some (.val (eDr tw)), some (.val (eSlots (genSlots ds))), none, none, none, none, none, none, none, none, none, none, none, none], []⟩ := by
    have sl := law_slots_ok hC (n + 12) (ds := ds) (mode := 0) (by omega) (by decide) []
    simp at sl
    simp [c_law, CSs.take, dok, e1, two, e2, sl]
  -- the first house
  obtain ⟨a, b, j4, j6, hb⟩ : ∃ (a b : Nat) (j4 j6 : Option M), ess PG (C (n + 14)) (C (n + 13)) ((c_law.body.drop 3).take 5) ⟨[some (.val (.scr (ns.map .int))), some (.val (eDr ds)), some (.val (eDr tw)), some (.val (eSlots (genSlots ds))), none, none, none, none, none, none, none, none, none, none, none, none], []⟩ =
      .ok .nx ⟨[some (.val (.scr (ns.map .int))), some (.val (eDr ds)), some (.val (eDr tw)), some (.val (eSlots (genSlots ds ++ xsL.take a))), j4, some (.val (eCharts (genCharts ds 0 ++ ysL.take b))), j6, none, none, none, none, none, none, none, none, none], []⟩ := by
    have ch := law_charts_ok hC (n + 8) (ds := ds) (mode := 0) (by omega) (by decide) []
    simp at ch
    have d84 := dr_at (ds := ds) 84 84 rfl (by omega)
    have d85 := dr_at (ds := ds) 85 85 rfl (by omega)
    have s2 := (genSlots_ok ds).1
    have c3 := charts_len (ds := ds) (mode := 0)
    have x1 : dr ds 84 % 6 < 3 → (M.val (.tup [.tup [.str [101, 49], .tup [.str [120], .str [121]]], .tup [.str [101, 50], .tup [.str [120]]]])).slc none (some ((dr ds 84 : Int) % 6)) = some (.val (eSlots (xsL.take (dr ds 84 % 6)))) := fun h => by
      have := slc_tup_to (xs := xsL.map eSlot) (n := dr ds 84 % 6) (by show _ ≤ 2; omega)
      rw [← List.map_take] at this
      rw [show ((dr ds 84 % 6 : Nat) : Int) = (dr ds 84 : Int) % 6 by omega] at this
      exact this
    have y1 : dr ds 85 % 8 < 4 → (M.val (.tup [.tup [.str [112, 49], .tup [.tup [.str [101, 110, 100], .str [122], .str [100, 111, 110, 101]]]], .tup [.str [112, 50], .tup [.tup [.str [103, 111], .str [97], .str [97]]]], .tup [.str [112, 51], .tup [.tup [.str [98, 97, 99, 107], .str [98], .str [111, 107]]]]])).slc none (some ((dr ds 85 : Int) % 8)) = some (.val (eCharts (ysL.take (dr ds 85 % 8)))) := fun h => by
      have := slc_tup_to (xs := ysL.map eChart) (n := dr ds 85 % 8) (by show _ ≤ 3; omega)
      rw [← List.map_take] at this
      rw [show ((dr ds 85 % 8 : Nat) : Int) = (dr ds 85 : Int) % 8 by omega] at this
      exact this
    have x2 : ∀ l : List Slot, l.length ≤ 2 → doAdd (.val (eSlots (genSlots ds))) (.val (eSlots l)) = some (.val (eSlots (genSlots ds ++ l))) := fun l hl => by
      simp [doAdd, M.asInt, M.asStr, eSlots]
      omega
    have y2 : ∀ l : List Chart, l.length ≤ 3 → doAdd (.val (eCharts (genCharts ds 0))) (.val (eCharts l)) = some (.val (eCharts (genCharts ds 0 ++ l))) := fun l hl => by
      simp [doAdd, M.asInt, M.asStr, eCharts]
      omega
    have x3 := x2 (xsL.take (dr ds 84 % 6)) (by rw [List.length_take]; exact Nat.min_le_right _ _)
    have y3 := y2 (ysL.take (dr ds 85 % 8)) (by rw [List.length_take]; exact Nat.min_le_right _ _)
    have more : ∀ S1 : Sg, S1 = S1 := fun _ => rfl
    have pl : D.tup [.tup [.str [112, 49], .tup [.tup [.str [101, 110, 100], .str [122], .str [100, 111, 110, 101]]]], .tup [.str [112, 50], .tup [.tup [.str [103, 111], .str [97], .str [97]]]], .tup [.str [112, 51], .tup [.tup [.str [98, 97, 99, 107], .str [98], .str [111, 107]]]]] = eCharts ysL := rfl
    by_cases c1 : dr ds 84 % 6 < 3
    · have c1' : (dr ds 84 : Int) % 6 < 3 := by omega
      have x1 := x1 c1
      by_cases c2 : dr ds 85 % 8 < 4
      · have c2' : (dr ds 85 : Int) % 8 < 4 := by omega
        have y1 := y1 c2
        refine ⟨dr ds 84 % 6, dr ds 85 % 8, some (.val (.int ((dr ds 85 : Int) % 8))), some (.val (eCharts ysL)), ?_⟩
        rw [← pl]
        simp [c_law, CSs.take, CSs.drop, ch, d84, d85, c1, c1', c2, c2', x1, y1, x3, y3]
      · have c2' : ¬ (dr ds 85 : Int) % 8 < 4 := by omega
        refine ⟨dr ds 84 % 6, 0, some (.val (.int ((dr ds 85 : Int) % 8))), none, ?_⟩
        simp [c_law, CSs.take, CSs.drop, ch, d84, d85, c1, c1', c2, c2', x1, x3]
    · have c1' : ¬ (dr ds 84 : Int) % 6 < 3 := by omega
      by_cases c2 : dr ds 85 % 8 < 4
      · have c2' : (dr ds 85 : Int) % 8 < 4 := by omega
        have y1 := y1 c2
        refine ⟨0, dr ds 85 % 8, some (.val (.int ((dr ds 85 : Int) % 8))), some (.val (eCharts ysL)), ?_⟩
        rw [← pl]
        simp [c_law, CSs.take, CSs.drop, ch, d84, d85, c1, c1', c2, c2', y1, y3]
      · have c2' : ¬ (dr ds 85 : Int) % 8 < 4 := by omega
        refine ⟨0, 0, some (.val (.int ((dr ds 85 : Int) % 8))), none, ?_⟩
        simp [c_law, CSs.take, CSs.drop, ch, d84, d85, c1, c1', c2, c2']
  -- the second house, the outcome
  generalize hsl : genSlots ds ++ xsL.take a = sl1 at *
  generalize hch : genCharts ds 0 ++ ysL.take b = ch1 at *
  have tm : ∀ k, tailL.nth (k % 4) [] ∈ tailL := fun k => nth_mem (mod_lt (by decide))
  have tl : ∀ k, (tailL.nth (k % 4) []).length ≤ 1 := fun k => by
    have key : ∀ x < 4, (tailL.nth x []).length ≤ 1 := by decide
    exact key _ (mod_lt (by decide))
  have ta : ∀ k : Nat, (M.val (.lst [.str [50], .str [50], .str [122], .str []])).at_ (.int ((k : Int) % 4)) = some (.val (.str (tailL.nth (k % 4) []))) := fun k => strs_at (l := tailL) _ (k % 4) (by omega) (mod_lt (by decide))
  have d86 := dr_at (ds := ds) 86 86 rfl (by omega)
  have d87 := dr_at (ds := ds) 87 87 rfl (by omega)
  have d88 := dr_at (ds := ds) 88 88 rfl (by omega)
  have d89 := dr_at (ds := ds) 89 89 rfl (by omega)
  have d90 := dr_at (ds := ds) 90 90 rfl (by omega)
  have d91 := dr_at (ds := ds) 91 91 rfl (by omega)
  generalize ht1 : tailL.nth (dr ds 86 % 4) [] = t1
  generalize ht2 : tailL.nth (dr ds 87 % 4) [] = t2
  generalize ht3 : tailL.nth (dr ds 88 % 4) [] = t3
  generalize ht4 : tailL.nth (dr ds 89 % 4) [] = t4
  generalize ht5 : tailL.nth (dr ds 90 % 4) [] = t5
  generalize ho : endings.nth (dr ds 91 % 15) .non = o
  have m1 : t1 ∈ tailL := by rw [← ht1]; exact tm _
  have m2 : t2 ∈ tailL := by rw [← ht2]; exact tm _
  have m3 : t3 ∈ tailL := by rw [← ht3]; exact tm _
  have m4 : t4 ∈ tailL := by rw [← ht4]; exact tm _
  have m5 : t5 ∈ tailL := by rw [← ht5]; exact tm _
  have po : plnB 64 o = true := by rw [← ho]; exact endings_ok _ (mod_lt (by decide))
  have H2 := second_ok (ds := tw) S m1 m2 m3 m4 m5
  have H0 := gen_ok (C := C) (ds := tw) (mode := 0) (by decide) (S.tx.sub (by decide))
  have G0 := gen_ok (C := C) (ds := ds) (mode := 0) (by decide) (S.tx.sub (by decide))
  have H1 : HouseOk C sl1 ch1 := by
    rw [← hsl, ← hch]
    exact extend_ok G0 (genSlots_ok ds).1 charts_len slot_in chart_in a b
  have rn := law_renamed_ok hC (n + 9) (rs := rsOf t1 t2) (rc := rcOf t3 t4 t5) (tx := newS (txL (rsOf t1 t2))) H0 (fun c hc nm t x hm n ob => by
    obtain ⟨a, rfl⟩ := gen_say hc hm
    exact S.nt t1 m1 t2 m2 _ (said_in a) n ob) []
  generalize hsl2 : (genSlots tw).map (newSlot (rsOf t1 t2)) = sl2 at *
  generalize hch2 : (genCharts tw 0).map (newChart (rsOf t1 t2) (rcOf t3 t4 t5) (newS (txL (rsOf t1 t2)))) = ch2 at *
  have hc : ∃ (k8 k9 k10 k12 : Option M), ess PG (C (n + 14)) (C (n + 13)) (((c_law.body.drop 3).drop 5).take 8) ⟨[some (.val (.scr (ns.map .int))), some (.val (eDr ds)), some (.val (eDr tw)), some (.val (eSlots sl1)), j4, some (.val (eCharts ch1)), j6, none, none, none, none, none, none, none, none, none], []⟩ =
      .ok .nx ⟨[some (.val (.scr (ns.map .int))), some (.val (eDr ds)), some (.val (eDr tw)), some (.val (eSlots sl1)), j4, some (.val (eCharts ch1)), j6, some (.val (ePair sl1 ch1)), k8, k9, k10, some (.val (ePair sl2 ch2)), k12, some (.val o), none, none], []⟩ := by
    have q1 := add_str (x := [116, 111, 119, 110]) (y := t1) (by have := tl (dr ds 86); rw [ht1] at this; simp; omega)
    have q2 := add_str (x := [100]) (y := t2) (by have := tl (dr ds 87); rw [ht2] at this; simp; omega)
    have q3 := add_str (x := [109, 97, 105, 110]) (y := t3) (by have := tl (dr ds 88); rw [ht3] at this; simp; omega)
    have q4 := add_str (x := [100, 101, 115, 107]) (y := t4) (by have := tl (dr ds 89); rw [ht4] at this; simp; omega)
    have q5 := add_str (x := [99]) (y := t5) (by have := tl (dr ds 90); rw [ht5] at this; simp; omega)
    have ts := law_slots_ok hC (n + 12) (ds := tw) (mode := 0) (by omega) (by decide) []
    have tc := law_charts_ok hC (n + 8) (ds := tw) (mode := 0) (by omega) (by decide) []
    have en : (M.val (.lst endings)).at_ (.int ((dr ds 91 : Int) % 15)) = some (.val o) := by
      rw [← ho]
      exact lst_at _ (dr ds 91 % 15) (by omega) (getD_some (mod_lt (by decide)))
    simp only [endings] at en
    simp at ts tc q1 q2 q3 q4 q5
    simp only [ePair, eRows, rsOf, rcOf, List.map, eArm] at rn
    simp at rn
    refine ⟨some (.val (eStrs tailL)), some (.val (eRows (rsOf t1 t2))), some (.val (eRows (rcOf t3 t4 t5))), some (.val (.lst endings)), ?_⟩
    simp [c_law, CSs.take, CSs.drop, d86, d87, d88, d89, d90, d91, ta, ht1, ht2, ht3, ht4, ht5, q1, q2, q3, q4, q5, ts, tc, rn, en]
    exact ⟨rfl, rfl, rfl, rfl, rfl, rfl⟩
  obtain ⟨k8, k9, k10, k12, hc⟩ := hc
  -- both are sewn
  generalize hO : [oHouse sl1 ch1, oLinks sl1 ch1, oHouse sl2 ch2, oLinks sl2 ch2] = O
  have o0 : O[0]? = some (oHouse sl1 ch1) := by rw [← hO]; rfl
  have o2 : O[2]? = some (oHouse sl2 ch2) := by rw [← hO]; rfl
  have i1 := House_init_ok hC (n + 4) H1 []
  have i2 := House_init_ok hC (n + 4) H2 [oHouse sl1 ch1, oLinks sl1 ch1]
  simp at i1 i2
  obtain ⟨x1, a1⟩ := law_answer_ok hC (n + 2) po H1 H2 o0 o2
  have e0 : (O ++ x1)[0]? = some (oHouse sl1 ch1) := by rw [← hO]; rfl
  have e2' : (O ++ x1)[2]? = some (oHouse sl2 ch2) := by rw [← hO]; rfl
  obtain ⟨x2, a2⟩ := law_answer_ok hC (n + 2) po H2 H1 e2' e0
  have u1 := law_due_ok hC (n + 11) po H1 H2 (O ++ x1)
  have u2 := law_due_ok hC (n + 11) po H2 H1 (O ++ x1 ++ x2)
  have w1 := same_refl hC 7 (n + 5) (st_due (o := o) H1 H2) (O ++ x1)
  have w2 := same_refl hC 7 (n + 5) (st_due (o := o) H2 H1) (O ++ x1 ++ x2)
  have w3 := same_refl hC 7 (n + 5) (st_pair H1) (O ++ x1)
  have w4 := same_refl hC 7 (n + 5) (st_pair H2) (O ++ x1)
  have hd : ∃ ob, outR (ess PG (C (n + 14)) (C (n + 13)) (((c_law.body.drop 3).drop 5).drop 8) ⟨[some (.val (.scr (ns.map .int))), some (.val (eDr ds)), some (.val (eDr tw)), some (.val (eSlots sl1)), j4, some (.val (eCharts ch1)), j6, some (.val (ePair sl1 ch1)), k8, k9, k10, some (.val (ePair sl2 ch2)), k12, some (.val o), none, none], []⟩) = .ok (.val (.bl true)) ob := by
    refine ⟨O ++ x1 ++ x2, ?_⟩
    have p1 : ∀ (sl : List Slot) (ch : List Chart), (M.val (ePair sl ch)).at_ (.int 0) = some (.val (eSlots sl)) := fun _ _ => by simp [ePair]
    have p2 : ∀ (sl : List Slot) (ch : List Chart), (M.val (ePair sl ch)).at_ (.int 1) = some (.val (eCharts ch)) := fun _ _ => by simp [ePair]
    have p3 : ∀ (sl : List Slot) (ch : List Chart), D.tup [eSlots sl, eCharts ch] = ePair sl ch := fun _ _ => rfl
    simp at w1 w2 w3 w4 a1 a2 u1 u2 e0 e2'
    rw [ess_split 2]
    have two : ess PG (C (n + 14)) (C (n + 13)) ((((c_law.body.drop 3).drop 5).drop 8).take 2) ⟨[some (.val (.scr (ns.map .int))), some (.val (eDr ds)), some (.val (eDr tw)), some (.val (eSlots sl1)), j4, some (.val (eCharts ch1)), j6, some (.val (ePair sl1 ch1)), k8, k9, k10, some (.val (ePair sl2 ch2)), k12, some (.val o), none, none], []⟩ =
        .ok .nx ⟨[some (.val (.scr (ns.map .int))), some (.val (eDr ds)), some (.val (eDr tw)), some (.val (eSlots sl1)), j4, some (.val (eCharts ch1)), j6, some (.val (ePair sl1 ch1)), k8, k9, k10, some (.val (ePair sl2 ch2)), k12, some (.val o), some (.val (.obj 0)), some (.val (.obj 2))], O⟩ := by
      simp [c_law, CSs.take, CSs.drop, p1, p2, i1, i2, hO]
    rw [two, thenS_nx]
    simp [c_law, CSs.drop, a1, a2, u1, u2, w1, w2, w3, w4, e0, e2', p3]
  obtain ⟨ob, hd⟩ := hd
  refine ⟨ob, ?_⟩
  show outR (ess PG (C (n + 14)) (C (n + 13)) c_law.body ⟨[some (.val (.scr (ns.map .int))), none, none, none, none, none, none, none, none, none, none, none, none, none, none, none], []⟩) = _
  rw [ess_split 3, ha, thenS_nx, ess_split 5, hb, thenS_nx, ess_split 8, hc, thenS_nx]
  exact hd
end Tk.K61
/- M61T -/
set_option Elab.async false
set_option linter.all false
set_option maxRecDepth 100000
set_option maxHeartbeats 0
namespace Tk.K61
open Tk Tk.WP Tk.Md
abbrev CN (n : Nat) : CallFn := (callN PG n).1
theorem t0 : TextOk CN [72, 105, 46] [] := ⟨fun n ob => by kernel_rfl, fun n ob => by kernel_rfl, fun n ob => by kernel_rfl⟩
theorem t1 : TextOk CN [65, 32, 98] [] := ⟨fun n ob => by kernel_rfl, fun n ob => by kernel_rfl, fun n ob => by kernel_rfl⟩
theorem t2 : TextOk CN [78, 111, 119, 32, 49, 32, 43, 32, 49, 33] [] := ⟨fun n ob => by kernel_rfl, fun n ob => by kernel_rfl, fun n ob => by kernel_rfl⟩
theorem t3 : TextOk CN [83, 97, 121, 32, 60, 116, 111, 119, 110, 62, 44, 32, 112, 108, 101, 97, 115, 101] [[116, 111, 119, 110]] := ⟨fun n ob => by kernel_rfl, fun n ob => by kernel_rfl, fun n ob => by kernel_rfl⟩
theorem t4 : TextOk CN [83, 97, 121, 32, 60, 100, 62, 44, 32, 112, 108, 101, 97, 115, 101] [[100]] := ⟨fun n ob => by kernel_rfl, fun n ob => by kernel_rfl, fun n ob => by kernel_rfl⟩
theorem t5 : TextOk CN [83, 97, 121, 32, 60, 116, 111, 119, 110, 50, 62, 44, 32, 112, 108, 101, 97, 115, 101] [[116, 111, 119, 110, 50]] := ⟨fun n ob => by kernel_rfl, fun n ob => by kernel_rfl, fun n ob => by kernel_rfl⟩
theorem t6 : TextOk CN [83, 97, 121, 32, 60, 116, 111, 119, 110, 122, 62, 44, 32, 112, 108, 101, 97, 115, 101] [[116, 111, 119, 110, 122]] := ⟨fun n ob => by kernel_rfl, fun n ob => by kernel_rfl, fun n ob => by kernel_rfl⟩
theorem t7 : TextOk CN [83, 97, 121, 32, 60, 100, 50, 62, 44, 32, 112, 108, 101, 97, 115, 101] [[100, 50]] := ⟨fun n ob => by kernel_rfl, fun n ob => by kernel_rfl, fun n ob => by kernel_rfl⟩
theorem t8 : TextOk CN [83, 97, 121, 32, 60, 100, 122, 62, 44, 32, 112, 108, 101, 97, 115, 101] [[100, 122]] := ⟨fun n ob => by kernel_rfl, fun n ob => by kernel_rfl, fun n ob => by kernel_rfl⟩
theorem t9 : TextOk CN [60, 116, 111, 119, 110, 62, 32, 32, 111, 114, 32, 60, 116, 111, 119, 110, 62, 63] [[116, 111, 119, 110], [116, 111, 119, 110]] := ⟨fun n ob => by kernel_rfl, fun n ob => by kernel_rfl, fun n ob => by kernel_rfl⟩
theorem t10 : TextOk CN [60, 116, 111, 119, 110, 62, 32, 32, 111, 114, 32, 60, 100, 62, 63] [[116, 111, 119, 110], [100]] := ⟨fun n ob => by kernel_rfl, fun n ob => by kernel_rfl, fun n ob => by kernel_rfl⟩
theorem t11 : TextOk CN [60, 116, 111, 119, 110, 62, 32, 32, 111, 114, 32, 60, 116, 111, 119, 110, 50, 62, 63] [[116, 111, 119, 110], [116, 111, 119, 110, 50]] := ⟨fun n ob => by kernel_rfl, fun n ob => by kernel_rfl, fun n ob => by kernel_rfl⟩
theorem t12 : TextOk CN [60, 116, 111, 119, 110, 62, 32, 32, 111, 114, 32, 60, 116, 111, 119, 110, 122, 62, 63] [[116, 111, 119, 110], [116, 111, 119, 110, 122]] := ⟨fun n ob => by kernel_rfl, fun n ob => by kernel_rfl, fun n ob => by kernel_rfl⟩
theorem t13 : TextOk CN [60, 116, 111, 119, 110, 62, 32, 32, 111, 114, 32, 60, 100, 50, 62, 63] [[116, 111, 119, 110], [100, 50]] := ⟨fun n ob => by kernel_rfl, fun n ob => by kernel_rfl, fun n ob => by kernel_rfl⟩
theorem t14 : TextOk CN [60, 116, 111, 119, 110, 62, 32, 32, 111, 114, 32, 60, 100, 122, 62, 63] [[116, 111, 119, 110], [100, 122]] := ⟨fun n ob => by kernel_rfl, fun n ob => by kernel_rfl, fun n ob => by kernel_rfl⟩
theorem t15 : TextOk CN [60, 100, 62, 32, 32, 111, 114, 32, 60, 116, 111, 119, 110, 62, 63] [[100], [116, 111, 119, 110]] := ⟨fun n ob => by kernel_rfl, fun n ob => by kernel_rfl, fun n ob => by kernel_rfl⟩
theorem t16 : TextOk CN [60, 100, 62, 32, 32, 111, 114, 32, 60, 100, 62, 63] [[100], [100]] := ⟨fun n ob => by kernel_rfl, fun n ob => by kernel_rfl, fun n ob => by kernel_rfl⟩
theorem t17 : TextOk CN [60, 100, 62, 32, 32, 111, 114, 32, 60, 116, 111, 119, 110, 50, 62, 63] [[100], [116, 111, 119, 110, 50]] := ⟨fun n ob => by kernel_rfl, fun n ob => by kernel_rfl, fun n ob => by kernel_rfl⟩
theorem t18 : TextOk CN [60, 100, 62, 32, 32, 111, 114, 32, 60, 116, 111, 119, 110, 122, 62, 63] [[100], [116, 111, 119, 110, 122]] := ⟨fun n ob => by kernel_rfl, fun n ob => by kernel_rfl, fun n ob => by kernel_rfl⟩
theorem t19 : TextOk CN [60, 100, 62, 32, 32, 111, 114, 32, 60, 100, 50, 62, 63] [[100], [100, 50]] := ⟨fun n ob => by kernel_rfl, fun n ob => by kernel_rfl, fun n ob => by kernel_rfl⟩
theorem t20 : TextOk CN [60, 100, 62, 32, 32, 111, 114, 32, 60, 100, 122, 62, 63] [[100], [100, 122]] := ⟨fun n ob => by kernel_rfl, fun n ob => by kernel_rfl, fun n ob => by kernel_rfl⟩
theorem t21 : TextOk CN [60, 116, 111, 119, 110, 50, 62, 32, 32, 111, 114, 32, 60, 116, 111, 119, 110, 62, 63] [[116, 111, 119, 110, 50], [116, 111, 119, 110]] := ⟨fun n ob => by kernel_rfl, fun n ob => by kernel_rfl, fun n ob => by kernel_rfl⟩
theorem t22 : TextOk CN [60, 116, 111, 119, 110, 50, 62, 32, 32, 111, 114, 32, 60, 100, 62, 63] [[116, 111, 119, 110, 50], [100]] := ⟨fun n ob => by kernel_rfl, fun n ob => by kernel_rfl, fun n ob => by kernel_rfl⟩
theorem t23 : TextOk CN [60, 116, 111, 119, 110, 50, 62, 32, 32, 111, 114, 32, 60, 116, 111, 119, 110, 50, 62, 63] [[116, 111, 119, 110, 50], [116, 111, 119, 110, 50]] := ⟨fun n ob => by kernel_rfl, fun n ob => by kernel_rfl, fun n ob => by kernel_rfl⟩
theorem t24 : TextOk CN [60, 116, 111, 119, 110, 50, 62, 32, 32, 111, 114, 32, 60, 116, 111, 119, 110, 122, 62, 63] [[116, 111, 119, 110, 50], [116, 111, 119, 110, 122]] := ⟨fun n ob => by kernel_rfl, fun n ob => by kernel_rfl, fun n ob => by kernel_rfl⟩
theorem t25 : TextOk CN [60, 116, 111, 119, 110, 50, 62, 32, 32, 111, 114, 32, 60, 100, 50, 62, 63] [[116, 111, 119, 110, 50], [100, 50]] := ⟨fun n ob => by kernel_rfl, fun n ob => by kernel_rfl, fun n ob => by kernel_rfl⟩
theorem t26 : TextOk CN [60, 116, 111, 119, 110, 50, 62, 32, 32, 111, 114, 32, 60, 100, 122, 62, 63] [[116, 111, 119, 110, 50], [100, 122]] := ⟨fun n ob => by kernel_rfl, fun n ob => by kernel_rfl, fun n ob => by kernel_rfl⟩
theorem t27 : TextOk CN [60, 116, 111, 119, 110, 122, 62, 32, 32, 111, 114, 32, 60, 116, 111, 119, 110, 62, 63] [[116, 111, 119, 110, 122], [116, 111, 119, 110]] := ⟨fun n ob => by kernel_rfl, fun n ob => by kernel_rfl, fun n ob => by kernel_rfl⟩
theorem t28 : TextOk CN [60, 116, 111, 119, 110, 122, 62, 32, 32, 111, 114, 32, 60, 100, 62, 63] [[116, 111, 119, 110, 122], [100]] := ⟨fun n ob => by kernel_rfl, fun n ob => by kernel_rfl, fun n ob => by kernel_rfl⟩
theorem t29 : TextOk CN [60, 116, 111, 119, 110, 122, 62, 32, 32, 111, 114, 32, 60, 116, 111, 119, 110, 50, 62, 63] [[116, 111, 119, 110, 122], [116, 111, 119, 110, 50]] := ⟨fun n ob => by kernel_rfl, fun n ob => by kernel_rfl, fun n ob => by kernel_rfl⟩
theorem t30 : TextOk CN [60, 116, 111, 119, 110, 122, 62, 32, 32, 111, 114, 32, 60, 116, 111, 119, 110, 122, 62, 63] [[116, 111, 119, 110, 122], [116, 111, 119, 110, 122]] := ⟨fun n ob => by kernel_rfl, fun n ob => by kernel_rfl, fun n ob => by kernel_rfl⟩
theorem t31 : TextOk CN [60, 116, 111, 119, 110, 122, 62, 32, 32, 111, 114, 32, 60, 100, 50, 62, 63] [[116, 111, 119, 110, 122], [100, 50]] := ⟨fun n ob => by kernel_rfl, fun n ob => by kernel_rfl, fun n ob => by kernel_rfl⟩
theorem t32 : TextOk CN [60, 116, 111, 119, 110, 122, 62, 32, 32, 111, 114, 32, 60, 100, 122, 62, 63] [[116, 111, 119, 110, 122], [100, 122]] := ⟨fun n ob => by kernel_rfl, fun n ob => by kernel_rfl, fun n ob => by kernel_rfl⟩
theorem t33 : TextOk CN [60, 100, 50, 62, 32, 32, 111, 114, 32, 60, 116, 111, 119, 110, 62, 63] [[100, 50], [116, 111, 119, 110]] := ⟨fun n ob => by kernel_rfl, fun n ob => by kernel_rfl, fun n ob => by kernel_rfl⟩
theorem t34 : TextOk CN [60, 100, 50, 62, 32, 32, 111, 114, 32, 60, 100, 62, 63] [[100, 50], [100]] := ⟨fun n ob => by kernel_rfl, fun n ob => by kernel_rfl, fun n ob => by kernel_rfl⟩
theorem t35 : TextOk CN [60, 100, 50, 62, 32, 32, 111, 114, 32, 60, 116, 111, 119, 110, 50, 62, 63] [[100, 50], [116, 111, 119, 110, 50]] := ⟨fun n ob => by kernel_rfl, fun n ob => by kernel_rfl, fun n ob => by kernel_rfl⟩
theorem t36 : TextOk CN [60, 100, 50, 62, 32, 32, 111, 114, 32, 60, 116, 111, 119, 110, 122, 62, 63] [[100, 50], [116, 111, 119, 110, 122]] := ⟨fun n ob => by kernel_rfl, fun n ob => by kernel_rfl, fun n ob => by kernel_rfl⟩
theorem t37 : TextOk CN [60, 100, 50, 62, 32, 32, 111, 114, 32, 60, 100, 50, 62, 63] [[100, 50], [100, 50]] := ⟨fun n ob => by kernel_rfl, fun n ob => by kernel_rfl, fun n ob => by kernel_rfl⟩
theorem t38 : TextOk CN [60, 100, 50, 62, 32, 32, 111, 114, 32, 60, 100, 122, 62, 63] [[100, 50], [100, 122]] := ⟨fun n ob => by kernel_rfl, fun n ob => by kernel_rfl, fun n ob => by kernel_rfl⟩
theorem t39 : TextOk CN [60, 100, 122, 62, 32, 32, 111, 114, 32, 60, 116, 111, 119, 110, 62, 63] [[100, 122], [116, 111, 119, 110]] := ⟨fun n ob => by kernel_rfl, fun n ob => by kernel_rfl, fun n ob => by kernel_rfl⟩
theorem t40 : TextOk CN [60, 100, 122, 62, 32, 32, 111, 114, 32, 60, 100, 62, 63] [[100, 122], [100]] := ⟨fun n ob => by kernel_rfl, fun n ob => by kernel_rfl, fun n ob => by kernel_rfl⟩
theorem t41 : TextOk CN [60, 100, 122, 62, 32, 32, 111, 114, 32, 60, 116, 111, 119, 110, 50, 62, 63] [[100, 122], [116, 111, 119, 110, 50]] := ⟨fun n ob => by kernel_rfl, fun n ob => by kernel_rfl, fun n ob => by kernel_rfl⟩
theorem t42 : TextOk CN [60, 100, 122, 62, 32, 32, 111, 114, 32, 60, 116, 111, 119, 110, 122, 62, 63] [[100, 122], [116, 111, 119, 110, 122]] := ⟨fun n ob => by kernel_rfl, fun n ob => by kernel_rfl, fun n ob => by kernel_rfl⟩
theorem t43 : TextOk CN [60, 100, 122, 62, 32, 32, 111, 114, 32, 60, 100, 50, 62, 63] [[100, 122], [100, 50]] := ⟨fun n ob => by kernel_rfl, fun n ob => by kernel_rfl, fun n ob => by kernel_rfl⟩
theorem t44 : TextOk CN [60, 100, 122, 62, 32, 32, 111, 114, 32, 60, 100, 122, 62, 63] [[100, 122], [100, 122]] := ⟨fun n ob => by kernel_rfl, fun n ob => by kernel_rfl, fun n ob => by kernel_rfl⟩
theorem texts_ok : TextsOk CN allNames := ⟨(List.forall_mem_cons.mpr ⟨t0, (List.forall_mem_cons.mpr ⟨t1, (List.forall_mem_cons.mpr ⟨t2, (fun _ h => absurd h List.not_mem_nil)⟩)⟩)⟩), (List.forall_mem_cons.mpr ⟨t3, (List.forall_mem_cons.mpr ⟨t4, (List.forall_mem_cons.mpr ⟨t5, (List.forall_mem_cons.mpr ⟨t6, (List.forall_mem_cons.mpr ⟨t7, (List.forall_mem_cons.mpr ⟨t8, (fun _ h => absurd h List.not_mem_nil)⟩)⟩)⟩)⟩)⟩)⟩), (List.forall_mem_cons.mpr ⟨(List.forall_mem_cons.mpr ⟨t9, (List.forall_mem_cons.mpr ⟨t10, (List.forall_mem_cons.mpr ⟨t11, (List.forall_mem_cons.mpr ⟨t12, (List.forall_mem_cons.mpr ⟨t13, (List.forall_mem_cons.mpr ⟨t14, (fun _ h => absurd h List.not_mem_nil)⟩)⟩)⟩)⟩)⟩)⟩), (List.forall_mem_cons.mpr ⟨(List.forall_mem_cons.mpr ⟨t15, (List.forall_mem_cons.mpr ⟨t16, (List.forall_mem_cons.mpr ⟨t17, (List.forall_mem_cons.mpr ⟨t18, (List.forall_mem_cons.mpr ⟨t19, (List.forall_mem_cons.mpr ⟨t20, (fun _ h => absurd h List.not_mem_nil)⟩)⟩)⟩)⟩)⟩)⟩), (List.forall_mem_cons.mpr ⟨(List.forall_mem_cons.mpr ⟨t21, (List.forall_mem_cons.mpr ⟨t22, (List.forall_mem_cons.mpr ⟨t23, (List.forall_mem_cons.mpr ⟨t24, (List.forall_mem_cons.mpr ⟨t25, (List.forall_mem_cons.mpr ⟨t26, (fun _ h => absurd h List.not_mem_nil)⟩)⟩)⟩)⟩)⟩)⟩), (List.forall_mem_cons.mpr ⟨(List.forall_mem_cons.mpr ⟨t27, (List.forall_mem_cons.mpr ⟨t28, (List.forall_mem_cons.mpr ⟨t29, (List.forall_mem_cons.mpr ⟨t30, (List.forall_mem_cons.mpr ⟨t31, (List.forall_mem_cons.mpr ⟨t32, (fun _ h => absurd h List.not_mem_nil)⟩)⟩)⟩)⟩)⟩)⟩), (List.forall_mem_cons.mpr ⟨(List.forall_mem_cons.mpr ⟨t33, (List.forall_mem_cons.mpr ⟨t34, (List.forall_mem_cons.mpr ⟨t35, (List.forall_mem_cons.mpr ⟨t36, (List.forall_mem_cons.mpr ⟨t37, (List.forall_mem_cons.mpr ⟨t38, (fun _ h => absurd h List.not_mem_nil)⟩)⟩)⟩)⟩)⟩)⟩), (List.forall_mem_cons.mpr ⟨(List.forall_mem_cons.mpr ⟨t39, (List.forall_mem_cons.mpr ⟨t40, (List.forall_mem_cons.mpr ⟨t41, (List.forall_mem_cons.mpr ⟨t42, (List.forall_mem_cons.mpr ⟨t43, (List.forall_mem_cons.mpr ⟨t44, (fun _ h => absurd h List.not_mem_nil)⟩)⟩)⟩)⟩)⟩)⟩), (fun _ h => absurd h List.not_mem_nil)⟩)⟩)⟩)⟩)⟩)⟩)⟩
theorem u0_0 : ∀ n ob, CN (n + 3) f__law_new_text [eRows (rsOf [50] [50]), .str [72, 105, 46]] ob = .ok (.val (.str (newS (txL (rsOf [50] [50])) [72, 105, 46]))) ob := fun n ob => by kernel_rfl
theorem u0_1 : ∀ n ob, CN (n + 3) f__law_new_text [eRows (rsOf [50] [50]), .str [65, 32, 98]] ob = .ok (.val (.str (newS (txL (rsOf [50] [50])) [65, 32, 98]))) ob := fun n ob => by kernel_rfl
theorem u0_2 : ∀ n ob, CN (n + 3) f__law_new_text [eRows (rsOf [50] [50]), .str [78, 111, 119, 32, 49, 32, 43, 32, 49, 33]] ob = .ok (.val (.str (newS (txL (rsOf [50] [50])) [78, 111, 119, 32, 49, 32, 43, 32, 49, 33]))) ob := fun n ob => by kernel_rfl
theorem u0_3 : ∀ n ob, CN (n + 3) f__law_new_text [eRows (rsOf [50] [50]), .str [83, 97, 121, 32, 60, 116, 111, 119, 110, 62, 44, 32, 112, 108, 101, 97, 115, 101]] ob = .ok (.val (.str (newS (txL (rsOf [50] [50])) [83, 97, 121, 32, 60, 116, 111, 119, 110, 62, 44, 32, 112, 108, 101, 97, 115, 101]))) ob := fun n ob => by kernel_rfl
theorem u0_4 : ∀ n ob, CN (n + 3) f__law_new_text [eRows (rsOf [50] [50]), .str [83, 97, 121, 32, 60, 100, 62, 44, 32, 112, 108, 101, 97, 115, 101]] ob = .ok (.val (.str (newS (txL (rsOf [50] [50])) [83, 97, 121, 32, 60, 100, 62, 44, 32, 112, 108, 101, 97, 115, 101]))) ob := fun n ob => by kernel_rfl
theorem u0_5 : ∀ n ob, CN (n + 3) f__law_new_text [eRows (rsOf [50] [50]), .str [60, 116, 111, 119, 110, 62, 32, 32, 111, 114, 32, 60, 116, 111, 119, 110, 62, 63]] ob = .ok (.val (.str (newS (txL (rsOf [50] [50])) [60, 116, 111, 119, 110, 62, 32, 32, 111, 114, 32, 60, 116, 111, 119, 110, 62, 63]))) ob := fun n ob => by kernel_rfl
theorem u0_6 : ∀ n ob, CN (n + 3) f__law_new_text [eRows (rsOf [50] [50]), .str [60, 116, 111, 119, 110, 62, 32, 32, 111, 114, 32, 60, 100, 62, 63]] ob = .ok (.val (.str (newS (txL (rsOf [50] [50])) [60, 116, 111, 119, 110, 62, 32, 32, 111, 114, 32, 60, 100, 62, 63]))) ob := fun n ob => by kernel_rfl
theorem u0_7 : ∀ n ob, CN (n + 3) f__law_new_text [eRows (rsOf [50] [50]), .str [60, 100, 62, 32, 32, 111, 114, 32, 60, 116, 111, 119, 110, 62, 63]] ob = .ok (.val (.str (newS (txL (rsOf [50] [50])) [60, 100, 62, 32, 32, 111, 114, 32, 60, 116, 111, 119, 110, 62, 63]))) ob := fun n ob => by kernel_rfl
theorem u0_8 : ∀ n ob, CN (n + 3) f__law_new_text [eRows (rsOf [50] [50]), .str [60, 100, 62, 32, 32, 111, 114, 32, 60, 100, 62, 63]] ob = .ok (.val (.str (newS (txL (rsOf [50] [50])) [60, 100, 62, 32, 32, 111, 114, 32, 60, 100, 62, 63]))) ob := fun n ob => by kernel_rfl
theorem u0 : ∀ t ∈ texts0, ∀ n ob, CN (n + 3) f__law_new_text [eRows (rsOf [50] [50]), .str t] ob = .ok (.val (.str (newS (txL (rsOf [50] [50])) t))) ob := (List.forall_mem_cons.mpr ⟨u0_0, (List.forall_mem_cons.mpr ⟨u0_1, (List.forall_mem_cons.mpr ⟨u0_2, (List.forall_mem_cons.mpr ⟨u0_3, (List.forall_mem_cons.mpr ⟨u0_4, (List.forall_mem_cons.mpr ⟨u0_5, (List.forall_mem_cons.mpr ⟨u0_6, (List.forall_mem_cons.mpr ⟨u0_7, (List.forall_mem_cons.mpr ⟨u0_8, (fun _ h => absurd h List.not_mem_nil)⟩)⟩)⟩)⟩)⟩)⟩)⟩)⟩)⟩)
theorem u1_0 : ∀ n ob, CN (n + 3) f__law_new_text [eRows (rsOf [50] [122]), .str [72, 105, 46]] ob = .ok (.val (.str (newS (txL (rsOf [50] [122])) [72, 105, 46]))) ob := fun n ob => by kernel_rfl
theorem u1_1 : ∀ n ob, CN (n + 3) f__law_new_text [eRows (rsOf [50] [122]), .str [65, 32, 98]] ob = .ok (.val (.str (newS (txL (rsOf [50] [122])) [65, 32, 98]))) ob := fun n ob => by kernel_rfl
theorem u1_2 : ∀ n ob, CN (n + 3) f__law_new_text [eRows (rsOf [50] [122]), .str [78, 111, 119, 32, 49, 32, 43, 32, 49, 33]] ob = .ok (.val (.str (newS (txL (rsOf [50] [122])) [78, 111, 119, 32, 49, 32, 43, 32, 49, 33]))) ob := fun n ob => by kernel_rfl
theorem u1_3 : ∀ n ob, CN (n + 3) f__law_new_text [eRows (rsOf [50] [122]), .str [83, 97, 121, 32, 60, 116, 111, 119, 110, 62, 44, 32, 112, 108, 101, 97, 115, 101]] ob = .ok (.val (.str (newS (txL (rsOf [50] [122])) [83, 97, 121, 32, 60, 116, 111, 119, 110, 62, 44, 32, 112, 108, 101, 97, 115, 101]))) ob := fun n ob => by kernel_rfl
theorem u1_4 : ∀ n ob, CN (n + 3) f__law_new_text [eRows (rsOf [50] [122]), .str [83, 97, 121, 32, 60, 100, 62, 44, 32, 112, 108, 101, 97, 115, 101]] ob = .ok (.val (.str (newS (txL (rsOf [50] [122])) [83, 97, 121, 32, 60, 100, 62, 44, 32, 112, 108, 101, 97, 115, 101]))) ob := fun n ob => by kernel_rfl
theorem u1_5 : ∀ n ob, CN (n + 3) f__law_new_text [eRows (rsOf [50] [122]), .str [60, 116, 111, 119, 110, 62, 32, 32, 111, 114, 32, 60, 116, 111, 119, 110, 62, 63]] ob = .ok (.val (.str (newS (txL (rsOf [50] [122])) [60, 116, 111, 119, 110, 62, 32, 32, 111, 114, 32, 60, 116, 111, 119, 110, 62, 63]))) ob := fun n ob => by kernel_rfl
theorem u1_6 : ∀ n ob, CN (n + 3) f__law_new_text [eRows (rsOf [50] [122]), .str [60, 116, 111, 119, 110, 62, 32, 32, 111, 114, 32, 60, 100, 62, 63]] ob = .ok (.val (.str (newS (txL (rsOf [50] [122])) [60, 116, 111, 119, 110, 62, 32, 32, 111, 114, 32, 60, 100, 62, 63]))) ob := fun n ob => by kernel_rfl
theorem u1_7 : ∀ n ob, CN (n + 3) f__law_new_text [eRows (rsOf [50] [122]), .str [60, 100, 62, 32, 32, 111, 114, 32, 60, 116, 111, 119, 110, 62, 63]] ob = .ok (.val (.str (newS (txL (rsOf [50] [122])) [60, 100, 62, 32, 32, 111, 114, 32, 60, 116, 111, 119, 110, 62, 63]))) ob := fun n ob => by kernel_rfl
theorem u1_8 : ∀ n ob, CN (n + 3) f__law_new_text [eRows (rsOf [50] [122]), .str [60, 100, 62, 32, 32, 111, 114, 32, 60, 100, 62, 63]] ob = .ok (.val (.str (newS (txL (rsOf [50] [122])) [60, 100, 62, 32, 32, 111, 114, 32, 60, 100, 62, 63]))) ob := fun n ob => by kernel_rfl
theorem u1 : ∀ t ∈ texts0, ∀ n ob, CN (n + 3) f__law_new_text [eRows (rsOf [50] [122]), .str t] ob = .ok (.val (.str (newS (txL (rsOf [50] [122])) t))) ob := (List.forall_mem_cons.mpr ⟨u1_0, (List.forall_mem_cons.mpr ⟨u1_1, (List.forall_mem_cons.mpr ⟨u1_2, (List.forall_mem_cons.mpr ⟨u1_3, (List.forall_mem_cons.mpr ⟨u1_4, (List.forall_mem_cons.mpr ⟨u1_5, (List.forall_mem_cons.mpr ⟨u1_6, (List.forall_mem_cons.mpr ⟨u1_7, (List.forall_mem_cons.mpr ⟨u1_8, (fun _ h => absurd h List.not_mem_nil)⟩)⟩)⟩)⟩)⟩)⟩)⟩)⟩)⟩)
theorem u2_0 : ∀ n ob, CN (n + 3) f__law_new_text [eRows (rsOf [50] []), .str [72, 105, 46]] ob = .ok (.val (.str (newS (txL (rsOf [50] [])) [72, 105, 46]))) ob := fun n ob => by kernel_rfl
theorem u2_1 : ∀ n ob, CN (n + 3) f__law_new_text [eRows (rsOf [50] []), .str [65, 32, 98]] ob = .ok (.val (.str (newS (txL (rsOf [50] [])) [65, 32, 98]))) ob := fun n ob => by kernel_rfl
theorem u2_2 : ∀ n ob, CN (n + 3) f__law_new_text [eRows (rsOf [50] []), .str [78, 111, 119, 32, 49, 32, 43, 32, 49, 33]] ob = .ok (.val (.str (newS (txL (rsOf [50] [])) [78, 111, 119, 32, 49, 32, 43, 32, 49, 33]))) ob := fun n ob => by kernel_rfl
theorem u2_3 : ∀ n ob, CN (n + 3) f__law_new_text [eRows (rsOf [50] []), .str [83, 97, 121, 32, 60, 116, 111, 119, 110, 62, 44, 32, 112, 108, 101, 97, 115, 101]] ob = .ok (.val (.str (newS (txL (rsOf [50] [])) [83, 97, 121, 32, 60, 116, 111, 119, 110, 62, 44, 32, 112, 108, 101, 97, 115, 101]))) ob := fun n ob => by kernel_rfl
theorem u2_4 : ∀ n ob, CN (n + 3) f__law_new_text [eRows (rsOf [50] []), .str [83, 97, 121, 32, 60, 100, 62, 44, 32, 112, 108, 101, 97, 115, 101]] ob = .ok (.val (.str (newS (txL (rsOf [50] [])) [83, 97, 121, 32, 60, 100, 62, 44, 32, 112, 108, 101, 97, 115, 101]))) ob := fun n ob => by kernel_rfl
theorem u2_5 : ∀ n ob, CN (n + 3) f__law_new_text [eRows (rsOf [50] []), .str [60, 116, 111, 119, 110, 62, 32, 32, 111, 114, 32, 60, 116, 111, 119, 110, 62, 63]] ob = .ok (.val (.str (newS (txL (rsOf [50] [])) [60, 116, 111, 119, 110, 62, 32, 32, 111, 114, 32, 60, 116, 111, 119, 110, 62, 63]))) ob := fun n ob => by kernel_rfl
theorem u2_6 : ∀ n ob, CN (n + 3) f__law_new_text [eRows (rsOf [50] []), .str [60, 116, 111, 119, 110, 62, 32, 32, 111, 114, 32, 60, 100, 62, 63]] ob = .ok (.val (.str (newS (txL (rsOf [50] [])) [60, 116, 111, 119, 110, 62, 32, 32, 111, 114, 32, 60, 100, 62, 63]))) ob := fun n ob => by kernel_rfl
theorem u2_7 : ∀ n ob, CN (n + 3) f__law_new_text [eRows (rsOf [50] []), .str [60, 100, 62, 32, 32, 111, 114, 32, 60, 116, 111, 119, 110, 62, 63]] ob = .ok (.val (.str (newS (txL (rsOf [50] [])) [60, 100, 62, 32, 32, 111, 114, 32, 60, 116, 111, 119, 110, 62, 63]))) ob := fun n ob => by kernel_rfl
theorem u2_8 : ∀ n ob, CN (n + 3) f__law_new_text [eRows (rsOf [50] []), .str [60, 100, 62, 32, 32, 111, 114, 32, 60, 100, 62, 63]] ob = .ok (.val (.str (newS (txL (rsOf [50] [])) [60, 100, 62, 32, 32, 111, 114, 32, 60, 100, 62, 63]))) ob := fun n ob => by kernel_rfl
theorem u2 : ∀ t ∈ texts0, ∀ n ob, CN (n + 3) f__law_new_text [eRows (rsOf [50] []), .str t] ob = .ok (.val (.str (newS (txL (rsOf [50] [])) t))) ob := (List.forall_mem_cons.mpr ⟨u2_0, (List.forall_mem_cons.mpr ⟨u2_1, (List.forall_mem_cons.mpr ⟨u2_2, (List.forall_mem_cons.mpr ⟨u2_3, (List.forall_mem_cons.mpr ⟨u2_4, (List.forall_mem_cons.mpr ⟨u2_5, (List.forall_mem_cons.mpr ⟨u2_6, (List.forall_mem_cons.mpr ⟨u2_7, (List.forall_mem_cons.mpr ⟨u2_8, (fun _ h => absurd h List.not_mem_nil)⟩)⟩)⟩)⟩)⟩)⟩)⟩)⟩)⟩)
theorem u3_0 : ∀ n ob, CN (n + 3) f__law_new_text [eRows (rsOf [122] [50]), .str [72, 105, 46]] ob = .ok (.val (.str (newS (txL (rsOf [122] [50])) [72, 105, 46]))) ob := fun n ob => by kernel_rfl
theorem u3_1 : ∀ n ob, CN (n + 3) f__law_new_text [eRows (rsOf [122] [50]), .str [65, 32, 98]] ob = .ok (.val (.str (newS (txL (rsOf [122] [50])) [65, 32, 98]))) ob := fun n ob => by kernel_rfl
theorem u3_2 : ∀ n ob, CN (n + 3) f__law_new_text [eRows (rsOf [122] [50]), .str [78, 111, 119, 32, 49, 32, 43, 32, 49, 33]] ob = .ok (.val (.str (newS (txL (rsOf [122] [50])) [78, 111, 119, 32, 49, 32, 43, 32, 49, 33]))) ob := fun n ob => by kernel_rfl
theorem u3_3 : ∀ n ob, CN (n + 3) f__law_new_text [eRows (rsOf [122] [50]), .str [83, 97, 121, 32, 60, 116, 111, 119, 110, 62, 44, 32, 112, 108, 101, 97, 115, 101]] ob = .ok (.val (.str (newS (txL (rsOf [122] [50])) [83, 97, 121, 32, 60, 116, 111, 119, 110, 62, 44, 32, 112, 108, 101, 97, 115, 101]))) ob := fun n ob => by kernel_rfl
theorem u3_4 : ∀ n ob, CN (n + 3) f__law_new_text [eRows (rsOf [122] [50]), .str [83, 97, 121, 32, 60, 100, 62, 44, 32, 112, 108, 101, 97, 115, 101]] ob = .ok (.val (.str (newS (txL (rsOf [122] [50])) [83, 97, 121, 32, 60, 100, 62, 44, 32, 112, 108, 101, 97, 115, 101]))) ob := fun n ob => by kernel_rfl
theorem u3_5 : ∀ n ob, CN (n + 3) f__law_new_text [eRows (rsOf [122] [50]), .str [60, 116, 111, 119, 110, 62, 32, 32, 111, 114, 32, 60, 116, 111, 119, 110, 62, 63]] ob = .ok (.val (.str (newS (txL (rsOf [122] [50])) [60, 116, 111, 119, 110, 62, 32, 32, 111, 114, 32, 60, 116, 111, 119, 110, 62, 63]))) ob := fun n ob => by kernel_rfl
theorem u3_6 : ∀ n ob, CN (n + 3) f__law_new_text [eRows (rsOf [122] [50]), .str [60, 116, 111, 119, 110, 62, 32, 32, 111, 114, 32, 60, 100, 62, 63]] ob = .ok (.val (.str (newS (txL (rsOf [122] [50])) [60, 116, 111, 119, 110, 62, 32, 32, 111, 114, 32, 60, 100, 62, 63]))) ob := fun n ob => by kernel_rfl
theorem u3_7 : ∀ n ob, CN (n + 3) f__law_new_text [eRows (rsOf [122] [50]), .str [60, 100, 62, 32, 32, 111, 114, 32, 60, 116, 111, 119, 110, 62, 63]] ob = .ok (.val (.str (newS (txL (rsOf [122] [50])) [60, 100, 62, 32, 32, 111, 114, 32, 60, 116, 111, 119, 110, 62, 63]))) ob := fun n ob => by kernel_rfl
theorem u3_8 : ∀ n ob, CN (n + 3) f__law_new_text [eRows (rsOf [122] [50]), .str [60, 100, 62, 32, 32, 111, 114, 32, 60, 100, 62, 63]] ob = .ok (.val (.str (newS (txL (rsOf [122] [50])) [60, 100, 62, 32, 32, 111, 114, 32, 60, 100, 62, 63]))) ob := fun n ob => by kernel_rfl
theorem u3 : ∀ t ∈ texts0, ∀ n ob, CN (n + 3) f__law_new_text [eRows (rsOf [122] [50]), .str t] ob = .ok (.val (.str (newS (txL (rsOf [122] [50])) t))) ob := (List.forall_mem_cons.mpr ⟨u3_0, (List.forall_mem_cons.mpr ⟨u3_1, (List.forall_mem_cons.mpr ⟨u3_2, (List.forall_mem_cons.mpr ⟨u3_3, (List.forall_mem_cons.mpr ⟨u3_4, (List.forall_mem_cons.mpr ⟨u3_5, (List.forall_mem_cons.mpr ⟨u3_6, (List.forall_mem_cons.mpr ⟨u3_7, (List.forall_mem_cons.mpr ⟨u3_8, (fun _ h => absurd h List.not_mem_nil)⟩)⟩)⟩)⟩)⟩)⟩)⟩)⟩)⟩)
theorem u4_0 : ∀ n ob, CN (n + 3) f__law_new_text [eRows (rsOf [122] [122]), .str [72, 105, 46]] ob = .ok (.val (.str (newS (txL (rsOf [122] [122])) [72, 105, 46]))) ob := fun n ob => by kernel_rfl
theorem u4_1 : ∀ n ob, CN (n + 3) f__law_new_text [eRows (rsOf [122] [122]), .str [65, 32, 98]] ob = .ok (.val (.str (newS (txL (rsOf [122] [122])) [65, 32, 98]))) ob := fun n ob => by kernel_rfl
theorem u4_2 : ∀ n ob, CN (n + 3) f__law_new_text [eRows (rsOf [122] [122]), .str [78, 111, 119, 32, 49, 32, 43, 32, 49, 33]] ob = .ok (.val (.str (newS (txL (rsOf [122] [122])) [78, 111, 119, 32, 49, 32, 43, 32, 49, 33]))) ob := fun n ob => by kernel_rfl
theorem u4_3 : ∀ n ob, CN (n + 3) f__law_new_text [eRows (rsOf [122] [122]), .str [83, 97, 121, 32, 60, 116, 111, 119, 110, 62, 44, 32, 112, 108, 101, 97, 115, 101]] ob = .ok (.val (.str (newS (txL (rsOf [122] [122])) [83, 97, 121, 32, 60, 116, 111, 119, 110, 62, 44, 32, 112, 108, 101, 97, 115, 101]))) ob := fun n ob => by kernel_rfl
theorem u4_4 : ∀ n ob, CN (n + 3) f__law_new_text [eRows (rsOf [122] [122]), .str [83, 97, 121, 32, 60, 100, 62, 44, 32, 112, 108, 101, 97, 115, 101]] ob = .ok (.val (.str (newS (txL (rsOf [122] [122])) [83, 97, 121, 32, 60, 100, 62, 44, 32, 112, 108, 101, 97, 115, 101]))) ob := fun n ob => by kernel_rfl
theorem u4_5 : ∀ n ob, CN (n + 3) f__law_new_text [eRows (rsOf [122] [122]), .str [60, 116, 111, 119, 110, 62, 32, 32, 111, 114, 32, 60, 116, 111, 119, 110, 62, 63]] ob = .ok (.val (.str (newS (txL (rsOf [122] [122])) [60, 116, 111, 119, 110, 62, 32, 32, 111, 114, 32, 60, 116, 111, 119, 110, 62, 63]))) ob := fun n ob => by kernel_rfl
theorem u4_6 : ∀ n ob, CN (n + 3) f__law_new_text [eRows (rsOf [122] [122]), .str [60, 116, 111, 119, 110, 62, 32, 32, 111, 114, 32, 60, 100, 62, 63]] ob = .ok (.val (.str (newS (txL (rsOf [122] [122])) [60, 116, 111, 119, 110, 62, 32, 32, 111, 114, 32, 60, 100, 62, 63]))) ob := fun n ob => by kernel_rfl
theorem u4_7 : ∀ n ob, CN (n + 3) f__law_new_text [eRows (rsOf [122] [122]), .str [60, 100, 62, 32, 32, 111, 114, 32, 60, 116, 111, 119, 110, 62, 63]] ob = .ok (.val (.str (newS (txL (rsOf [122] [122])) [60, 100, 62, 32, 32, 111, 114, 32, 60, 116, 111, 119, 110, 62, 63]))) ob := fun n ob => by kernel_rfl
theorem u4_8 : ∀ n ob, CN (n + 3) f__law_new_text [eRows (rsOf [122] [122]), .str [60, 100, 62, 32, 32, 111, 114, 32, 60, 100, 62, 63]] ob = .ok (.val (.str (newS (txL (rsOf [122] [122])) [60, 100, 62, 32, 32, 111, 114, 32, 60, 100, 62, 63]))) ob := fun n ob => by kernel_rfl
theorem u4 : ∀ t ∈ texts0, ∀ n ob, CN (n + 3) f__law_new_text [eRows (rsOf [122] [122]), .str t] ob = .ok (.val (.str (newS (txL (rsOf [122] [122])) t))) ob := (List.forall_mem_cons.mpr ⟨u4_0, (List.forall_mem_cons.mpr ⟨u4_1, (List.forall_mem_cons.mpr ⟨u4_2, (List.forall_mem_cons.mpr ⟨u4_3, (List.forall_mem_cons.mpr ⟨u4_4, (List.forall_mem_cons.mpr ⟨u4_5, (List.forall_mem_cons.mpr ⟨u4_6, (List.forall_mem_cons.mpr ⟨u4_7, (List.forall_mem_cons.mpr ⟨u4_8, (fun _ h => absurd h List.not_mem_nil)⟩)⟩)⟩)⟩)⟩)⟩)⟩)⟩)⟩)
theorem u5_0 : ∀ n ob, CN (n + 3) f__law_new_text [eRows (rsOf [122] []), .str [72, 105, 46]] ob = .ok (.val (.str (newS (txL (rsOf [122] [])) [72, 105, 46]))) ob := fun n ob => by kernel_rfl
theorem u5_1 : ∀ n ob, CN (n + 3) f__law_new_text [eRows (rsOf [122] []), .str [65, 32, 98]] ob = .ok (.val (.str (newS (txL (rsOf [122] [])) [65, 32, 98]))) ob := fun n ob => by kernel_rfl
theorem u5_2 : ∀ n ob, CN (n + 3) f__law_new_text [eRows (rsOf [122] []), .str [78, 111, 119, 32, 49, 32, 43, 32, 49, 33]] ob = .ok (.val (.str (newS (txL (rsOf [122] [])) [78, 111, 119, 32, 49, 32, 43, 32, 49, 33]))) ob := fun n ob => by kernel_rfl
theorem u5_3 : ∀ n ob, CN (n + 3) f__law_new_text [eRows (rsOf [122] []), .str [83, 97, 121, 32, 60, 116, 111, 119, 110, 62, 44, 32, 112, 108, 101, 97, 115, 101]] ob = .ok (.val (.str (newS (txL (rsOf [122] [])) [83, 97, 121, 32, 60, 116, 111, 119, 110, 62, 44, 32, 112, 108, 101, 97, 115, 101]))) ob := fun n ob => by kernel_rfl
theorem u5_4 : ∀ n ob, CN (n + 3) f__law_new_text [eRows (rsOf [122] []), .str [83, 97, 121, 32, 60, 100, 62, 44, 32, 112, 108, 101, 97, 115, 101]] ob = .ok (.val (.str (newS (txL (rsOf [122] [])) [83, 97, 121, 32, 60, 100, 62, 44, 32, 112, 108, 101, 97, 115, 101]))) ob := fun n ob => by kernel_rfl
theorem u5_5 : ∀ n ob, CN (n + 3) f__law_new_text [eRows (rsOf [122] []), .str [60, 116, 111, 119, 110, 62, 32, 32, 111, 114, 32, 60, 116, 111, 119, 110, 62, 63]] ob = .ok (.val (.str (newS (txL (rsOf [122] [])) [60, 116, 111, 119, 110, 62, 32, 32, 111, 114, 32, 60, 116, 111, 119, 110, 62, 63]))) ob := fun n ob => by kernel_rfl
theorem u5_6 : ∀ n ob, CN (n + 3) f__law_new_text [eRows (rsOf [122] []), .str [60, 116, 111, 119, 110, 62, 32, 32, 111, 114, 32, 60, 100, 62, 63]] ob = .ok (.val (.str (newS (txL (rsOf [122] [])) [60, 116, 111, 119, 110, 62, 32, 32, 111, 114, 32, 60, 100, 62, 63]))) ob := fun n ob => by kernel_rfl
theorem u5_7 : ∀ n ob, CN (n + 3) f__law_new_text [eRows (rsOf [122] []), .str [60, 100, 62, 32, 32, 111, 114, 32, 60, 116, 111, 119, 110, 62, 63]] ob = .ok (.val (.str (newS (txL (rsOf [122] [])) [60, 100, 62, 32, 32, 111, 114, 32, 60, 116, 111, 119, 110, 62, 63]))) ob := fun n ob => by kernel_rfl
theorem u5_8 : ∀ n ob, CN (n + 3) f__law_new_text [eRows (rsOf [122] []), .str [60, 100, 62, 32, 32, 111, 114, 32, 60, 100, 62, 63]] ob = .ok (.val (.str (newS (txL (rsOf [122] [])) [60, 100, 62, 32, 32, 111, 114, 32, 60, 100, 62, 63]))) ob := fun n ob => by kernel_rfl
theorem u5 : ∀ t ∈ texts0, ∀ n ob, CN (n + 3) f__law_new_text [eRows (rsOf [122] []), .str t] ob = .ok (.val (.str (newS (txL (rsOf [122] [])) t))) ob := (List.forall_mem_cons.mpr ⟨u5_0, (List.forall_mem_cons.mpr ⟨u5_1, (List.forall_mem_cons.mpr ⟨u5_2, (List.forall_mem_cons.mpr ⟨u5_3, (List.forall_mem_cons.mpr ⟨u5_4, (List.forall_mem_cons.mpr ⟨u5_5, (List.forall_mem_cons.mpr ⟨u5_6, (List.forall_mem_cons.mpr ⟨u5_7, (List.forall_mem_cons.mpr ⟨u5_8, (fun _ h => absurd h List.not_mem_nil)⟩)⟩)⟩)⟩)⟩)⟩)⟩)⟩)⟩)
theorem u6_0 : ∀ n ob, CN (n + 3) f__law_new_text [eRows (rsOf [] [50]), .str [72, 105, 46]] ob = .ok (.val (.str (newS (txL (rsOf [] [50])) [72, 105, 46]))) ob := fun n ob => by kernel_rfl
theorem u6_1 : ∀ n ob, CN (n + 3) f__law_new_text [eRows (rsOf [] [50]), .str [65, 32, 98]] ob = .ok (.val (.str (newS (txL (rsOf [] [50])) [65, 32, 98]))) ob := fun n ob => by kernel_rfl
theorem u6_2 : ∀ n ob, CN (n + 3) f__law_new_text [eRows (rsOf [] [50]), .str [78, 111, 119, 32, 49, 32, 43, 32, 49, 33]] ob = .ok (.val (.str (newS (txL (rsOf [] [50])) [78, 111, 119, 32, 49, 32, 43, 32, 49, 33]))) ob := fun n ob => by kernel_rfl
theorem u6_3 : ∀ n ob, CN (n + 3) f__law_new_text [eRows (rsOf [] [50]), .str [83, 97, 121, 32, 60, 116, 111, 119, 110, 62, 44, 32, 112, 108, 101, 97, 115, 101]] ob = .ok (.val (.str (newS (txL (rsOf [] [50])) [83, 97, 121, 32, 60, 116, 111, 119, 110, 62, 44, 32, 112, 108, 101, 97, 115, 101]))) ob := fun n ob => by kernel_rfl
theorem u6_4 : ∀ n ob, CN (n + 3) f__law_new_text [eRows (rsOf [] [50]), .str [83, 97, 121, 32, 60, 100, 62, 44, 32, 112, 108, 101, 97, 115, 101]] ob = .ok (.val (.str (newS (txL (rsOf [] [50])) [83, 97, 121, 32, 60, 100, 62, 44, 32, 112, 108, 101, 97, 115, 101]))) ob := fun n ob => by kernel_rfl
theorem u6_5 : ∀ n ob, CN (n + 3) f__law_new_text [eRows (rsOf [] [50]), .str [60, 116, 111, 119, 110, 62, 32, 32, 111, 114, 32, 60, 116, 111, 119, 110, 62, 63]] ob = .ok (.val (.str (newS (txL (rsOf [] [50])) [60, 116, 111, 119, 110, 62, 32, 32, 111, 114, 32, 60, 116, 111, 119, 110, 62, 63]))) ob := fun n ob => by kernel_rfl
theorem u6_6 : ∀ n ob, CN (n + 3) f__law_new_text [eRows (rsOf [] [50]), .str [60, 116, 111, 119, 110, 62, 32, 32, 111, 114, 32, 60, 100, 62, 63]] ob = .ok (.val (.str (newS (txL (rsOf [] [50])) [60, 116, 111, 119, 110, 62, 32, 32, 111, 114, 32, 60, 100, 62, 63]))) ob := fun n ob => by kernel_rfl
theorem u6_7 : ∀ n ob, CN (n + 3) f__law_new_text [eRows (rsOf [] [50]), .str [60, 100, 62, 32, 32, 111, 114, 32, 60, 116, 111, 119, 110, 62, 63]] ob = .ok (.val (.str (newS (txL (rsOf [] [50])) [60, 100, 62, 32, 32, 111, 114, 32, 60, 116, 111, 119, 110, 62, 63]))) ob := fun n ob => by kernel_rfl
theorem u6_8 : ∀ n ob, CN (n + 3) f__law_new_text [eRows (rsOf [] [50]), .str [60, 100, 62, 32, 32, 111, 114, 32, 60, 100, 62, 63]] ob = .ok (.val (.str (newS (txL (rsOf [] [50])) [60, 100, 62, 32, 32, 111, 114, 32, 60, 100, 62, 63]))) ob := fun n ob => by kernel_rfl
theorem u6 : ∀ t ∈ texts0, ∀ n ob, CN (n + 3) f__law_new_text [eRows (rsOf [] [50]), .str t] ob = .ok (.val (.str (newS (txL (rsOf [] [50])) t))) ob := (List.forall_mem_cons.mpr ⟨u6_0, (List.forall_mem_cons.mpr ⟨u6_1, (List.forall_mem_cons.mpr ⟨u6_2, (List.forall_mem_cons.mpr ⟨u6_3, (List.forall_mem_cons.mpr ⟨u6_4, (List.forall_mem_cons.mpr ⟨u6_5, (List.forall_mem_cons.mpr ⟨u6_6, (List.forall_mem_cons.mpr ⟨u6_7, (List.forall_mem_cons.mpr ⟨u6_8, (fun _ h => absurd h List.not_mem_nil)⟩)⟩)⟩)⟩)⟩)⟩)⟩)⟩)⟩)
theorem u7_0 : ∀ n ob, CN (n + 3) f__law_new_text [eRows (rsOf [] [122]), .str [72, 105, 46]] ob = .ok (.val (.str (newS (txL (rsOf [] [122])) [72, 105, 46]))) ob := fun n ob => by kernel_rfl
theorem u7_1 : ∀ n ob, CN (n + 3) f__law_new_text [eRows (rsOf [] [122]), .str [65, 32, 98]] ob = .ok (.val (.str (newS (txL (rsOf [] [122])) [65, 32, 98]))) ob := fun n ob => by kernel_rfl
theorem u7_2 : ∀ n ob, CN (n + 3) f__law_new_text [eRows (rsOf [] [122]), .str [78, 111, 119, 32, 49, 32, 43, 32, 49, 33]] ob = .ok (.val (.str (newS (txL (rsOf [] [122])) [78, 111, 119, 32, 49, 32, 43, 32, 49, 33]))) ob := fun n ob => by kernel_rfl
theorem u7_3 : ∀ n ob, CN (n + 3) f__law_new_text [eRows (rsOf [] [122]), .str [83, 97, 121, 32, 60, 116, 111, 119, 110, 62, 44, 32, 112, 108, 101, 97, 115, 101]] ob = .ok (.val (.str (newS (txL (rsOf [] [122])) [83, 97, 121, 32, 60, 116, 111, 119, 110, 62, 44, 32, 112, 108, 101, 97, 115, 101]))) ob := fun n ob => by kernel_rfl
theorem u7_4 : ∀ n ob, CN (n + 3) f__law_new_text [eRows (rsOf [] [122]), .str [83, 97, 121, 32, 60, 100, 62, 44, 32, 112, 108, 101, 97, 115, 101]] ob = .ok (.val (.str (newS (txL (rsOf [] [122])) [83, 97, 121, 32, 60, 100, 62, 44, 32, 112, 108, 101, 97, 115, 101]))) ob := fun n ob => by kernel_rfl
theorem u7_5 : ∀ n ob, CN (n + 3) f__law_new_text [eRows (rsOf [] [122]), .str [60, 116, 111, 119, 110, 62, 32, 32, 111, 114, 32, 60, 116, 111, 119, 110, 62, 63]] ob = .ok (.val (.str (newS (txL (rsOf [] [122])) [60, 116, 111, 119, 110, 62, 32, 32, 111, 114, 32, 60, 116, 111, 119, 110, 62, 63]))) ob := fun n ob => by kernel_rfl
theorem u7_6 : ∀ n ob, CN (n + 3) f__law_new_text [eRows (rsOf [] [122]), .str [60, 116, 111, 119, 110, 62, 32, 32, 111, 114, 32, 60, 100, 62, 63]] ob = .ok (.val (.str (newS (txL (rsOf [] [122])) [60, 116, 111, 119, 110, 62, 32, 32, 111, 114, 32, 60, 100, 62, 63]))) ob := fun n ob => by kernel_rfl
theorem u7_7 : ∀ n ob, CN (n + 3) f__law_new_text [eRows (rsOf [] [122]), .str [60, 100, 62, 32, 32, 111, 114, 32, 60, 116, 111, 119, 110, 62, 63]] ob = .ok (.val (.str (newS (txL (rsOf [] [122])) [60, 100, 62, 32, 32, 111, 114, 32, 60, 116, 111, 119, 110, 62, 63]))) ob := fun n ob => by kernel_rfl
theorem u7_8 : ∀ n ob, CN (n + 3) f__law_new_text [eRows (rsOf [] [122]), .str [60, 100, 62, 32, 32, 111, 114, 32, 60, 100, 62, 63]] ob = .ok (.val (.str (newS (txL (rsOf [] [122])) [60, 100, 62, 32, 32, 111, 114, 32, 60, 100, 62, 63]))) ob := fun n ob => by kernel_rfl
theorem u7 : ∀ t ∈ texts0, ∀ n ob, CN (n + 3) f__law_new_text [eRows (rsOf [] [122]), .str t] ob = .ok (.val (.str (newS (txL (rsOf [] [122])) t))) ob := (List.forall_mem_cons.mpr ⟨u7_0, (List.forall_mem_cons.mpr ⟨u7_1, (List.forall_mem_cons.mpr ⟨u7_2, (List.forall_mem_cons.mpr ⟨u7_3, (List.forall_mem_cons.mpr ⟨u7_4, (List.forall_mem_cons.mpr ⟨u7_5, (List.forall_mem_cons.mpr ⟨u7_6, (List.forall_mem_cons.mpr ⟨u7_7, (List.forall_mem_cons.mpr ⟨u7_8, (fun _ h => absurd h List.not_mem_nil)⟩)⟩)⟩)⟩)⟩)⟩)⟩)⟩)⟩)
theorem u8_0 : ∀ n ob, CN (n + 3) f__law_new_text [eRows (rsOf [] []), .str [72, 105, 46]] ob = .ok (.val (.str (newS (txL (rsOf [] [])) [72, 105, 46]))) ob := fun n ob => by kernel_rfl
theorem u8_1 : ∀ n ob, CN (n + 3) f__law_new_text [eRows (rsOf [] []), .str [65, 32, 98]] ob = .ok (.val (.str (newS (txL (rsOf [] [])) [65, 32, 98]))) ob := fun n ob => by kernel_rfl
theorem u8_2 : ∀ n ob, CN (n + 3) f__law_new_text [eRows (rsOf [] []), .str [78, 111, 119, 32, 49, 32, 43, 32, 49, 33]] ob = .ok (.val (.str (newS (txL (rsOf [] [])) [78, 111, 119, 32, 49, 32, 43, 32, 49, 33]))) ob := fun n ob => by kernel_rfl
theorem u8_3 : ∀ n ob, CN (n + 3) f__law_new_text [eRows (rsOf [] []), .str [83, 97, 121, 32, 60, 116, 111, 119, 110, 62, 44, 32, 112, 108, 101, 97, 115, 101]] ob = .ok (.val (.str (newS (txL (rsOf [] [])) [83, 97, 121, 32, 60, 116, 111, 119, 110, 62, 44, 32, 112, 108, 101, 97, 115, 101]))) ob := fun n ob => by kernel_rfl
theorem u8_4 : ∀ n ob, CN (n + 3) f__law_new_text [eRows (rsOf [] []), .str [83, 97, 121, 32, 60, 100, 62, 44, 32, 112, 108, 101, 97, 115, 101]] ob = .ok (.val (.str (newS (txL (rsOf [] [])) [83, 97, 121, 32, 60, 100, 62, 44, 32, 112, 108, 101, 97, 115, 101]))) ob := fun n ob => by kernel_rfl
theorem u8_5 : ∀ n ob, CN (n + 3) f__law_new_text [eRows (rsOf [] []), .str [60, 116, 111, 119, 110, 62, 32, 32, 111, 114, 32, 60, 116, 111, 119, 110, 62, 63]] ob = .ok (.val (.str (newS (txL (rsOf [] [])) [60, 116, 111, 119, 110, 62, 32, 32, 111, 114, 32, 60, 116, 111, 119, 110, 62, 63]))) ob := fun n ob => by kernel_rfl
theorem u8_6 : ∀ n ob, CN (n + 3) f__law_new_text [eRows (rsOf [] []), .str [60, 116, 111, 119, 110, 62, 32, 32, 111, 114, 32, 60, 100, 62, 63]] ob = .ok (.val (.str (newS (txL (rsOf [] [])) [60, 116, 111, 119, 110, 62, 32, 32, 111, 114, 32, 60, 100, 62, 63]))) ob := fun n ob => by kernel_rfl
theorem u8_7 : ∀ n ob, CN (n + 3) f__law_new_text [eRows (rsOf [] []), .str [60, 100, 62, 32, 32, 111, 114, 32, 60, 116, 111, 119, 110, 62, 63]] ob = .ok (.val (.str (newS (txL (rsOf [] [])) [60, 100, 62, 32, 32, 111, 114, 32, 60, 116, 111, 119, 110, 62, 63]))) ob := fun n ob => by kernel_rfl
theorem u8_8 : ∀ n ob, CN (n + 3) f__law_new_text [eRows (rsOf [] []), .str [60, 100, 62, 32, 32, 111, 114, 32, 60, 100, 62, 63]] ob = .ok (.val (.str (newS (txL (rsOf [] [])) [60, 100, 62, 32, 32, 111, 114, 32, 60, 100, 62, 63]))) ob := fun n ob => by kernel_rfl
theorem u8 : ∀ t ∈ texts0, ∀ n ob, CN (n + 3) f__law_new_text [eRows (rsOf [] []), .str t] ob = .ok (.val (.str (newS (txL (rsOf [] [])) t))) ob := (List.forall_mem_cons.mpr ⟨u8_0, (List.forall_mem_cons.mpr ⟨u8_1, (List.forall_mem_cons.mpr ⟨u8_2, (List.forall_mem_cons.mpr ⟨u8_3, (List.forall_mem_cons.mpr ⟨u8_4, (List.forall_mem_cons.mpr ⟨u8_5, (List.forall_mem_cons.mpr ⟨u8_6, (List.forall_mem_cons.mpr ⟨u8_7, (List.forall_mem_cons.mpr ⟨u8_8, (fun _ h => absurd h List.not_mem_nil)⟩)⟩)⟩)⟩)⟩)⟩)⟩)⟩)⟩)
theorem seen : SeenT CN := ⟨texts_ok, (List.forall_mem_cons.mpr ⟨(List.forall_mem_cons.mpr ⟨u0, (List.forall_mem_cons.mpr ⟨u0, (List.forall_mem_cons.mpr ⟨u1, (List.forall_mem_cons.mpr ⟨u2, (fun _ h => absurd h List.not_mem_nil)⟩)⟩)⟩)⟩), (List.forall_mem_cons.mpr ⟨(List.forall_mem_cons.mpr ⟨u0, (List.forall_mem_cons.mpr ⟨u0, (List.forall_mem_cons.mpr ⟨u1, (List.forall_mem_cons.mpr ⟨u2, (fun _ h => absurd h List.not_mem_nil)⟩)⟩)⟩)⟩), (List.forall_mem_cons.mpr ⟨(List.forall_mem_cons.mpr ⟨u3, (List.forall_mem_cons.mpr ⟨u3, (List.forall_mem_cons.mpr ⟨u4, (List.forall_mem_cons.mpr ⟨u5, (fun _ h => absurd h List.not_mem_nil)⟩)⟩)⟩)⟩), (List.forall_mem_cons.mpr ⟨(List.forall_mem_cons.mpr ⟨u6, (List.forall_mem_cons.mpr ⟨u6, (List.forall_mem_cons.mpr ⟨u7, (List.forall_mem_cons.mpr ⟨u8, (fun _ h => absurd h List.not_mem_nil)⟩)⟩)⟩)⟩), (fun _ h => absurd h List.not_mem_nil)⟩)⟩)⟩)⟩)⟩
theorem math (ns : List Int) (hn : ns.length ≤ 63) : ∃ ob, (callN PG 31).1 lawIx [.scr (ns.map .int)] [] = .ok (.val (.bl true)) ob := law_ok (lvl_callN PG) seen 16 ns hn
end Tk.K61
open PySem PySem.W PyProof.Rows
theorem PySem.Challenge.cw_talkchart_k61_houses_sewn_holds : PySem.Challenge.rw_talkchart_k61_houses_sewn.Holds := by
  exact Tk.K61.holds_of Tk.K61.math
