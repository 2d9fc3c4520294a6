import PyProof.Rows.All
import HandS.ForMost
import HandS.ForExc
import HandS.Wide
import HandS.Property
import PyProof.ReprRoads
import HandS.IterVal
import HandS.IsInst
import HandS.Zip
import HandS.HeadHook1
import HandS.ExcInit
import HandS.ExcField
import HandS.ExcIs
import HandS.Deep
import HandS.Style
import HandS.Flow
import HandS.RaiseMore
import HandS.SortKw
import HandS.WordsExc
import HandS.Conv
import KE.KExcIs
import KE.KIsAll
import HandS.SetBool
import HandS.Strs
import HandS.SetFor
import HandS.Dict
import HandS.Defaults
import HandS.Codes
import HandS.Head0
import HandS.Head1
import HandS.Head2
import HandS.HeadEnd
import HandS.HeadHook2
import Wide.All
import OpenK.AllK
import Wide.FinOn
import KE.KExcSuper
import KE.KSuper
import HandS.Base
import HandS.Call
import HandS.List
import HandS.Exc
import HandS.FStr
import KE.KStateDown
import PySem.Challenge.RW_nowherezero_k14_lifted_rows
set_option linter.all false
set_option Elab.async false
/-! MiniA: plain data, a small syntax, and what a program in it does, on plain data alone. -/
namespace M
open PySem (Str PyData)

inductive D where
  | non | bl (b : Bool) | int (i : Int) | str (s : Str)
  | tup (ds : List D) | lst (ds : List D)
  | ins (c : Str) (fs : List (Str × D))
  | scr (ns : List Int)
  | dct (kvs : List (Int × D))

/-- a slot: nothing known; data that never changes; a list that is borrowed, one's own, handed in to be changed; an own dict;
an own list of own lists; one of the lists of slot o's list -/
inductive Sl where
  | top | sh (d : D) | bo (ds : List D) | ow (ds : List D) | io (ds : List D) | dc (kvs : List (Int × D))
  | on (dss : List (List D)) | al (o j : Nat) (ds : List D) | bd (kvs : List (Int × D))
abbrev En := List Sl

/-- a result: data; a new list; what a slot holds; a new dict -/
inductive R where
  | sh (d : D) | fr (ds : List D) | br (i : Nat) | fd (kvs : List (Int × D))

inductive Op where | add | sub | mul | fdiv | mod | pow
  deriving DecidableEq
inductive Cm where | lt | le | gt | ge | eq | ne | is | isnot | isin | notin
  deriving DecidableEq
/-- built-in functions -/
inductive Bi where | len | abs | int | list | tuple | repr | sorted | set | min | max | sum
  deriving DecidableEq
inductive T where
  | nm (i : Nat) | tp (a : T) (r : T) | tz

mutual
inductive E where
  | var (i : Nat) | int (n : Int) | bl (b : Bool) | non | str (s : Str)
  | bin (op : Op) (a b : E) | neg (a : E)
  | cmp (op : Cm) (a b : E) | chn (p q : Cm) (a b c : E)
  | not (a : E) | and (as : Es) | or (as : Es) | ife (c : B) (a b : E)
  | tup (as : Es) | lst (as : Es)
  | ix (a b : E) | sl (a : E) (lo hi : Es) | rev (a : E)
  | call (f : Str) (as : Es) | callk (f : Str) (as : Es) (ks : List Str) (kas : Es) | make (c : Str) (as : Es)
  | bi (f : Bi) (as : Es) | leni (a : E) | isi (a : E) (c : Str)
  | meth (o : E) (m : Str) (as : Es) | attr (o : E) (f : Str) | prop (o : E) (f : Str) | index (o a : E) | eqi (a b : E)
  | lc (elt : E) (tg : T) (it : I) (ifs : Bs) (own : List (Str × Nat))
  | lrg (as : Es)
  | leno (i : Nat) | lset (a : E) | lsc (elt : E) (tg : T) (it : I) (own : List (Str × Nat)) | isb (a : E) (c : Str)
  | dc0 | dc1 (i : Nat) | dg (i : Nat) (a : E) | din (neg : Bool) (a : E) (i : Nat) | sset (a : E) | lend (i : Nat) (a : E)
inductive Es where | nil | cons (e : E) (r : Es)
/-- tests -/
inductive B where | ex (e : E) | cmp (op : Cm) (a b : E) | chn (p q : Cm) (a b c : E) | not (a : B) | and (as : Bs) | or (as : Bs)
inductive Bs where | nil | cons (e : B) (r : Bs)
inductive I where | ex (e : E) | rng (as : Es) | enu (e : E) | zip (a b : E)
end
mutual
inductive HX where | int (n : Int) | str (s : Str) | non | bl (b : Bool) | att (f : Str) | tup (as : HXs) | ife (c : HB) (a b : HX)
inductive HXs where | nil | cons (a : HX) (r : HXs)
inductive HB where | is (c : Str) | not (a : HB) | and (a b : HB)
end
inductive HS where | ret (a : HX) | iff (c : HB) (a : HX) (r : HS)
mutual
inductive S where
  | asg (tg : T) (e : E) | par (i j : Nat) (a b : E) | set (o i e : E) | aug (i : Nat) (op : Op) (e : E) | augs (o i : E) (op : Op) (e : E)
  | app (o e : E) | ext (o e : E) | pop (i : Nat) (o : E) | ex (e : E) | ret (e : E) | retn
  | iff (c : B) (a b : Ss) | whl (c : B) (b : Ss) | forr (tg : T) (it : I) (b : Ss)
  | brk | cnt | pass | rais (c : Str) (as : Es) | dead | tryx (b : Ss) (i : Nat) (c : Str) (h : HS)
  | onw (i : Nat) (as : Es) | ona (o : Nat) (as : Es) | ali (i o : Nat) (e : E) | apa (i : Nat) (e : E)
  | dst (o : Nat) (k v : E)
inductive Ss where | nil | cons (s : S) (r : Ss)
end

/-! ### reading results -/
def val (ρ : En) : R → Option D
  | .sh d => some d
  | .fr ds => some (.lst ds)
  | .br i => match ρ[i]? with
    | some (.sh d) => some d
    | some (.bo ds) => some (.lst ds)
    | some (.ow ds) => some (.lst ds)
    | some (.io ds) => some (.lst ds)
    | some (.al _ _ ds) => some (.lst ds)
    | some (.dc kvs) => some (.dct kvs)
    | some (.bd kvs) => some (.dct kvs)
    | _ => none
  | .fd _ => none
/-- the result is laid into data: an own list is one's own no more -/
def keep (ρ : En) : R → Option (D × En)
  | .sh d => some (d, ρ)
  | .fr ds => some (.lst ds, ρ)
  | .br i => match ρ[i]? with
    | some (.sh d) => some (d, ρ)
    | some (.ow ds) => some (.lst ds, ρ.set i (.sh (.lst ds)))
    | some (.dc kvs) => some (.dct kvs, ρ.set i (.sh (.dct kvs)))
    | _ => none
  | .fd _ => none
def keepAll : List R → En → Option (List D × En)
  | [], ρ => some ([], ρ)
  | r :: rs, ρ => match keep ρ r with
    | some (d, ρ1) => match keepAll rs ρ1 with
      | some (ds, ρ2) => some (d :: ds, ρ2)
      | none => none
    | none => none

/-! ### calls -/
inductive Mo where | sh | bo | io
  deriving DecidableEq
inductive Rt where | sh (d : D) | fr (ds : List D)
def Rt.r : Rt → R
  | .sh d => .sh d
  | .fr ds => .fr ds
/-- an exception: its class, its attributes -/
structure Exn where
  cls : Str
  fs : List (Str × D)
/-- what a def promises: its arguments' data; its end: the result, the new items of the lists that were handed in to be changed; its exceptions -/
abbrev DSp := List D → (Rt → List (List D) → Prop) → (Exn → Prop) → Prop
structure Fn where
  ps : List Mo
  sp : DSp
/-- what stands at the module's top: defs, methods (by class), classes to be made, what a class's own walk goes through, exceptions -/
structure Tb where
  f : Str → Option Fn
  fk : Str → List Str → Option Fn
  m : Str → Str → Option Fn
  p : Str → Str → Option Fn
  fld : Str → Str → Bool
  mke : Str → Option Fn
  itf : Str → Option Str
  isn : Str → Bool
  exn : Str → Option (List D → Option (List (Str × D)))
  isx : Str → Str → Option Bool
  xfl : Str → Str → Bool

/-- the arguments' data by their modes -/
def argD : List Mo → List R → En → Option (List D × En)
  | [], [], ρ => some ([], ρ)
  | .sh :: ms, r :: rs, ρ => match keep ρ r with
    | some (d, ρ1) => match argD ms rs ρ1 with
      | some (ds, ρ2) => some (d :: ds, ρ2)
      | none => none
    | none => none
  | .bo :: ms, r :: rs, ρ => match val ρ r with
    | some d => match argD ms rs ρ with
      | some (ds, ρ2) => some (d :: ds, ρ2)
      | none => none
    | none => none
  | .io :: ms, .br i :: rs, ρ => match ρ[i]? with
    | some (.ow ds) => match argD ms rs ρ with
      | some (es, ρ2) => some (.lst ds :: es, ρ2)
      | none => none
    | some (.io ds) => match argD ms rs ρ with
      | some (es, ρ2) => some (.lst ds :: es, ρ2)
      | none => none
    | _ => none
  | _, _, _ => none
/-- the slots that are handed in to be changed -/
def ioIx : List Mo → List R → List Nat
  | .io :: ms, .br i :: rs => i :: ioIx ms rs
  | _ :: ms, _ :: rs => ioIx ms rs
  | _, _ => []
/-- the slots of which something is handed in, the others -/
def brIx : List Mo → List R → List Nat
  | .io :: ms, _ :: rs => brIx ms rs
  | _ :: ms, .br i :: rs => i :: brIx ms rs
  | _ :: ms, _ :: rs => brIx ms rs
  | _, _ => []
def putOut : List Nat → List (List D) → En → En
  | i :: is, ds :: dss, ρ => putOut is dss (match ρ[i]? with
    | some (.ow _) => ρ.set i (.ow ds)
    | some (.io _) => ρ.set i (.io ds)
    | _ => ρ)
  | _, _, ρ => ρ

/-! ### operators by data -/
def D.py : D → PyData
  | .non => .none
  | .bl b => .bool b
  | .int i => .int i
  | .str s => .str s
  | .tup ds => .tuple (pys ds)
  | .lst ds => .list (pys ds)
  | _ => .none
where pys : List D → List PyData
  | [] => []
  | d :: ds => d.py :: pys ds
/-- plain data: depth at most n -/
def D.pl : Nat → D → Bool
  | _, .non => true
  | _, .bl _ => true
  | _, .int _ => true
  | _, .str s => PyData.strOk s
  | n + 1, .tup ds => ds.all (D.pl n)
  | n + 1, .lst ds => ds.all (D.pl n)
  | _, _ => false

/-- == of plain data -/
def dEq : D → D → Option Bool
  | .int a, .int b => some (decide (a = b))
  | .bl a, .bl b => some (decide (a = b))
  | .str a, .str b => some (decide (a = b))
  | .non, .non => some true
  | .non, .int _ => some false
  | .int _, .non => some false
  | .non, .bl _ => some false
  | .bl _, .non => some false
  | .lst a, .lst b => if D.pl 20 (.lst a) && D.pl 20 (.lst b) then some (PyData.eqv (D.lst a).py (D.lst b).py) else none
  | .tup a, .tup b => if D.pl 20 (.tup a) && D.pl 20 (.tup b) then some (PyData.eqv (D.tup a).py (D.tup b).py) else none
  | _, _ => none
def D.isNon : D → Bool
  | .non => true
  | _ => false
/-- the ints of a list -/
def intsOf : List D → Option (List Int)
  | [] => some []
  | .int i :: ds => (intsOf ds).map (i :: ·)
  | _ :: _ => none
/-- x in ys, of plain data -/
def dIn (x : D) (ys : List D) : Option Bool := if D.pl 20 x && ys.all (D.pl 20) then some (ys.any fun y => PyData.eqv y.py x.py) else none
def dCm : Cm → D → D → Option Bool
  | .lt, .int a, .int b => some (decide (a < b))
  | .le, .int a, .int b => some (decide (a ≤ b))
  | .gt, .int a, .int b => some (decide (b < a))
  | .ge, .int a, .int b => some (decide (b ≤ a))
  | .eq, x, y => dEq x y
  | .ne, x, y => (dEq x y).map (!·)
  | .is, x, .non => some x.isNon
  | .isnot, x, .non => some !x.isNon
  | .isin, x, .lst ys => dIn x ys
  | .isin, .int x, .tup ys => (intsOf ys).map fun ns => decide (x ∈ ns)
  | .notin, x, .lst ys => (dIn x ys).map (!·)
  | .notin, .int x, .tup ys => (intsOf ys).map fun ns => !decide (x ∈ ns)
  | _, _, _ => none
def line : Nat := 16777216
def dBin : Op → D → D → (R → Prop) → Prop
  | .add, .int a, .int b, Q => Q (.sh (.int (a + b)))
  | .add, .lst a, .lst b, Q => a.length + b.length ≤ line ∧ Q (.fr (a ++ b))
  | .sub, .int a, .int b, Q => Q (.sh (.int (a - b)))
  | .mul, .int a, .int b, Q => L2.CMulW a b ∧ Q (.sh (.int (a * b)))
  | .mul, .lst a, .int k, Q => (-(2 ^ 63) ≤ k ∧ k < 2 ^ 63) ∧ a.length * k.toNat ≤ line ∧ Q (.fr (List.replicate k.toNat a).flatten)
  | .fdiv, .int a, .int b, Q => L2.CDivW a b ∧ Q (.sh (.int (a / b)))
  | .mod, .int a, .int b, Q => 0 < b ∧ Q (.sh (.int (a % b)))
  | .pow, .int a, .int b, Q => (0 ≤ b ∧ b ≤ 1000000 ∧ a.natAbs < 2 ^ 64) ∧ Q (.sh (.int (a ^ b.toNat)))
  | _, _, _, _ => False
def dTru : D → Option Bool
  | .bl b => some b
  | .int i => some (i != 0)
  | .non => some false
  | .lst ds => some !ds.isEmpty
  | .tup ds => some !ds.isEmpty
  | _ => none
def dIx : D → D → Option D
  | .lst ds, .int i => L2.atI ds i
  | .tup ds, .int i => L2.atI ds i
  | .scr ns, .int i => (L2.atI ns i).map D.int
  | _, _ => none
def cutD (xs : List D) (lo hi : Option Int) : List D := (xs.drop (HT.sIx xs.length 0 lo)).take (HT.sIx xs.length xs.length hi - HT.sIx xs.length 0 lo)
def insD : List D → List D
  | [] => []
  | d :: ds => d :: ds
/-- how much a text of the data takes, at most -/
def D.rw : D → Nat
  | .non => 4
  | .bl _ => 5
  | .int i => i.natAbs.log2 + 2
  | .tup ds => rws ds + 3
  | .lst ds => rws ds + 3
  | .str s => (PySem.reprText s).length
  | _ => 0
where rws : List D → Nat
  | [] => 0
  | d :: ds => d.rw + 2 + rws ds
/-- ints below 2 ^ 1900 -/
def D.rok : D → Bool
  | .int i => decide (i.natAbs.log2 < 1900)
  | .tup ds => roks ds
  | .lst ds => roks ds
  | _ => true
where roks : List D → Bool
  | [] => true
  | d :: ds => d.rok && roks ds
def w1 {α : Type} (o : Option α) (k : α → Prop) : Prop := match o with
  | some x => k x
  | none => False
/-- built-in functions of data -/
def dBi : Bi → List D → (R → Prop) → Prop
  | .len, [.lst ds], Q => Q (.sh (.int ds.length))
  | .len, [.tup ds], Q => Q (.sh (.int ds.length))
  | .len, [.scr ns], Q => Q (.sh (.int ns.length))
  | .abs, [.int i], Q => Q (.sh (.int (if i < 0 then -i else i)))
  | .int, [.int i], Q => Q (.sh (.int i))
  | .list, [.lst ds], Q => Q (.fr ds)
  | .list, [.tup ds], Q => Q (.fr ds)
  | .tuple, [.lst ds], Q => Q (.sh (.tup ds))
  | .tuple, [.tup ds], Q => Q (.sh (.tup ds))
  | .repr, [d], Q => D.pl 20 d = true ∧ d.rok = true ∧ d.rw ≤ line ∧ Q (.sh (.str d.py.shown))
  | .max, [.int i, .int j], Q => Q (.sh (.int (if j > i then j else i)))
  | .min, [.int i, .int j], Q => Q (.sh (.int (if j < i then j else i)))
  | .max, [.lst ds], Q => w1 (intsOf ds) fun ns => ns ≠ [] ∧ ∀ m ∈ ns, (∀ y ∈ ns, y ≤ m) → Q (.sh (.int m))
  | .min, [.lst ds], Q => w1 (intsOf ds) fun ns => ns ≠ [] ∧ ∀ m ∈ ns, (∀ y ∈ ns, m ≤ y) → Q (.sh (.int m))
  | .sum, [.lst ds], Q => w1 (intsOf ds) fun ns => Q (.sh (.int ns.sum))
  | .sorted, [.lst ds], Q => w1 (intsOf ds) fun ns => ∀ ms : List Int, ms.Perm ns → ms.Pairwise (· ≤ ·) → Q (.fr (ms.map D.int))
  | _, _, _ => False
/-- the different ones, in the order in which they are met first -/
def uniq (ns : List Int) : List Int := ns.foldl (fun met k => if met.any (· == k) = true then met else met ++ [k]) []
/-- how many different ones -/
def card (ns : List Int) : Nat := (uniq ns).length
/-- ints, truth values, None: how list.index compares them -/
def flatD : D → Bool
  | .non => true
  | .bl _ => true
  | .int _ => true
  | _ => false
def eqD : D → D → Bool
  | .non, .non => true
  | .bl a, .bl b => a == b
  | .bl a, .int b => (if a then 1 else 0) == b
  | .int a, .bl b => a == (if b then 1 else 0)
  | .int a, .int b => a == b
  | _, _ => false
/-- of this built-in type -/
def isB (c : Str) : D → Bool
  | .int _ => decide (c = "int")
  | .lst _ => decide (c = "list")
  | .tup _ => decide (c = "tuple")
  | _ => false
def vals (ρ : En) : List R → Option (List D)
  | [] => some []
  | r :: rs => match val ρ r with
    | some d => (vals ρ rs).map (d :: ·)
    | none => none

/-! ### what is wanted -/
abbrev QE := R → En → Prop
abbrev QX := Exn → En → Prop
/-- a name is bound to a result; a list handed in to be changed keeps its name -/
def isIo : Option Sl → Bool
  | some (.io _) => true
  | _ => false
def setSl (i : Nat) (r : R) (ρ : En) (Q : En → Prop) : Prop := isIo ρ[i]? = false ∧ match r with
  | .sh d => Q (ρ.set i (.sh d))
  | .fr ds => Q (ρ.set i (.ow ds))
  | .fd kvs => Q (ρ.set i (.dc kvs))
  | .br j => match keep ρ (.br j) with
    | some (d, ρ1) => Q (ρ1.set i (.sh d))
    | none => False
mutual
def dTg : T → D → En → (En → Prop) → Prop
  | .nm i, d, ρ, Q => isIo ρ[i]? = false ∧ Q (ρ.set i (.sh d))
  | .tp a r, d, ρ, Q => match d with
    | .tup (x :: xs) => dTg a x ρ fun ρ1 => dTr r xs ρ1 Q
    | _ => False
  | .tz, _, _, _ => False
def dTr : T → List D → En → (En → Prop) → Prop
  | .tp b r, ds, ρ, Q => match ds with
    | x :: xs => dTg b x ρ fun ρ1 => dTr r xs ρ1 Q
    | _ => False
  | .tz, ds, ρ, Q => ds = [] ∧ Q ρ
  | .nm _, _, _, _ => False
end

/-! ### the syntax's meaning -/
def w2 {α β : Type} (o : Option (α × β)) (k : α → β → Prop) : Prop := match o with
  | some (x, y) => k x y
  | none => False
def wI (o : Option D) (k : Int → Prop) : Prop := match o with
  | some (.int i) => k i
  | _ => False
def wL (o : Option D) (k : List D → Prop) : Prop := match o with
  | some (.lst ds) => k ds
  | _ => False
def wN (o : Option D) (k : Str → List (Str × D) → Prop) : Prop := match o with
  | some (.ins c fs) => k c fs
  | _ => False
theorem w1_of {α : Type} {o : Option α} {k : α → Prop} (h : w1 o k) : ∃ x, o = some x ∧ k x := by
  cases o with
  | none => exact h.elim
  | some x => exact ⟨x, rfl, h⟩
theorem w2_of {α β : Type} {o : Option (α × β)} {k : α → β → Prop} (h : w2 o k) : ∃ x y, o = some (x, y) ∧ k x y := by
  cases o with
  | none => exact h.elim
  | some x => exact ⟨x.1, x.2, rfl, h⟩
theorem wI_of {o : Option D} {k : Int → Prop} (h : wI o k) : ∃ i, o = some (.int i) ∧ k i := by
  unfold wI at h
  split at h
  · exact ⟨_, rfl, h⟩
  · exact h.elim
theorem wL_of {o : Option D} {k : List D → Prop} (h : wL o k) : ∃ i, o = some (.lst i) ∧ k i := by
  unfold wL at h
  split at h
  · exact ⟨_, rfl, h⟩
  · exact h.elim
theorem wN_of {o : Option D} {k : Str → List (Str × D) → Prop} (h : wN o k) : ∃ c fs, o = some (.ins c fs) ∧ k c fs := by
  unfold wN at h
  split at h
  · exact ⟨_, _, rfl, h⟩
  · exact h.elim
def wipeE (ρ : En) : List (Str × Nat) → En
  | [] => ρ
  | v :: vs => (wipeE ρ vs).set v.2 .top
/-- behind a comprehension: its own names' slots as they stood, if they held data -/
def backE (ρ0 : En) (own : List (Str × Nat)) (ρ : En) : En := match own with
  | [] => ρ
  | v :: vs => match ρ0[v.2]? with
    | some (.sh d) => (backE ρ0 vs ρ).set v.2 (.sh d)
    | _ => backE ρ0 vs ρ
/-- no own list stands in these slots -/
def freeE (ρ : En) (own : List (Str × Nat)) : Bool := own.all fun v => match ρ[v.2]? with
  | some .top => true
  | some (.sh _) => true
  | _ => false
def rngD (lo hi : Int) : List D := (List.range (hi - lo).toNat).map fun (i : Nat) => D.int (lo + (i : Int))
def enumD (ds : List D) : List D := (List.range ds.length).zipWith (fun (i : Nat) d => D.tup [.int (i : Int), d]) ds
def zipD (as bs : List D) : List D := as.zipWith (fun a b => D.tup [a, b]) bs
def nEx : QX := fun _ _ => False
/-- the call of a def -/
def dCall (fn : Option Fn) (rs : List R) (ρ : En) (Q : QE) (X : QX) : Prop := w1 fn fun fn => w2 (argD fn.ps rs ρ) fun ds ρ1 =>
  (ioIx fn.ps rs).Nodup ∧ (∀ i ∈ ioIx fn.ps rs, i ∉ brIx fn.ps rs) ∧
      fn.sp ds (fun r outs => Q r.r (putOut (ioIx fn.ps rs) outs ρ1)) (fun x => ioIx fn.ps rs = [] ∧ X x ρ1)
/-- range's bounds -/
def rngA (rs : Option (List D)) (k : Int → Int → Prop) : Prop := match rs with
  | some [.int j] => (-(2 ^ 62) ≤ j ∧ j < 2 ^ 62) ∧ k 0 j
  | some [.int i, .int j] => (-(2 ^ 62) ≤ i ∧ i < 2 ^ 62 ∧ -(2 ^ 62) ≤ j ∧ j < 2 ^ 62) ∧ k i j
  | _ => False
def slO (s : Option Sl) (k : List D → Prop) : Prop := match s with
  | some (.ow ds) => k ds
  | _ => False
/-- a result that is no slot's -/
def R.okL : R → Bool
  | .sh _ => true
  | .fr _ => true
  | _ => false
def Sl.isB : Sl → Bool
  | .bo _ => true
  | .bd _ => true
  | _ => false
/-- the other slots that borrow are as they were -/
def sameB (i : Nat) (ρ ρ' : En) : Prop := ∀ (j : Nat) s, j ≠ i → ρ'[j]? = some s → s.isB = true → ρ[j]? = some s
/-- a dict that is read -/
def slD (s : Option Sl) (k : List (Int × D) → Prop) : Prop := match s with
  | some (.dc kvs) => k kvs
  | some (.bd kvs) => k kvs
  | some (.sh (.dct kvs)) => k kvs
  | _ => False
/-- an own dict -/
def slC (s : Option Sl) (k : List (Int × D) → Prop) : Prop := match s with
  | some (.dc kvs) => k kvs
  | _ => False
def kyI (s : Option Sl) (k : Int → Prop) : Prop := match s with
  | some (.sh (.int i)) => k i
  | _ => False
def atK (kvs : List (Int × D)) (k : Int) : Option D := (kvs.find? fun kv => decide (kv.1 = k)).map (·.2)
def putI (kvs : List (Int × D)) (k : Int) (d : D) : List (Int × D) := if (kvs.any fun kv => decide (kv.1 = k)) = true then kvs.map (fun kv => if kv.1 = k then (kv.1, d) else kv) else kvs ++ [(k, d)]
variable (Γ : Tb)
def notTup : Option D → Bool
  | some (.tup _) => false
  | some (.scr _) => false
  | none => false
  | _ => true
/-- what a for goes through: the items; a list of one's own is one's own no more -/
def itemsR (ρ : En) : R → (List D → En → Prop) → Prop
  | .br i, Q => match ρ[i]? with
    | some (.bo ds) => Q ds ρ
    | some (.ow ds) => Q ds (ρ.set i (.sh (.lst ds)))
    | some (.sh (.lst ds)) => Q ds ρ
    | _ => False
  | .fr ds, Q => Q ds ρ
  | .sh (.lst ds), Q => Q ds ρ
  | .sh (.tup ds), Q => Q ds ρ
  | .sh (.ins c fs), Q => w1 (Γ.itf c) fun f => wL (fs.lookup f) fun ds => Q ds ρ
  | _, _ => False
mutual
def dE : E → En → QE → QX → Prop
  | .var i, ρ, Q, _ => match ρ[i]? with
    | none => False
    | some .top => False
    | some (.sh d) => Q (.sh d) ρ
    | some (.bo _) => Q (.br i) ρ
    | some (.ow _) => Q (.br i) ρ
    | some (.io _) => Q (.br i) ρ
    | some (.dc _) => Q (.br i) ρ
    | some (.on _) => False
    | some (.al _ _ _) => Q (.br i) ρ
    | some (.bd _) => Q (.br i) ρ
  | .int n, ρ, Q, _ => Q (.sh (.int n)) ρ
  | .bl b, ρ, Q, _ => Q (.sh (.bl b)) ρ
  | .non, ρ, Q, _ => Q (.sh .non) ρ
  | .str s, ρ, Q, _ => Q (.sh (.str s)) ρ
  | .bin op a b, ρ, Q, X => dE a ρ (fun ra ρ1 => dE b ρ1 (fun rb ρ2 => w1 (val ρ2 ra) fun x => w1 (val ρ2 rb) fun y => dBin op x y fun r => Q r ρ2) X) X
  | .neg a, ρ, Q, X => dE a ρ (fun ra ρ1 => wI (val ρ1 ra) fun i => Q (.sh (.int (-i))) ρ1) X
  | .cmp op a b, ρ, Q, X => dE a ρ (fun ra ρ1 => dE b ρ1 (fun rb ρ2 => w1 (val ρ2 ra) fun x => w1 (val ρ2 rb) fun y => w1 (dCm op x y) fun t => Q (.sh (.bl t)) ρ2) X) X
  | .chn p q a b c, ρ, Q, X => dE a ρ (fun ra ρ1 => dE b ρ1 (fun rb ρ2 => w1 (val ρ2 ra) fun x => w1 (val ρ2 rb) fun y => w1 (dCm p x y) fun t =>
      if t = true then dE c ρ2 (fun rc ρ3 => w1 (val ρ3 rb) fun y => w1 (val ρ3 rc) fun z => w1 (dCm q y z) fun t' => Q (.sh (.bl t')) ρ3) X else Q (.sh (.bl false)) ρ2) X) X
  | .not a, ρ, Q, X => dE a ρ (fun ra ρ1 => w1 (val ρ1 ra) fun x => w1 (dTru x) fun t => Q (.sh (.bl !t)) ρ1) X
  | .and as, ρ, Q, X => dAV as ρ Q X
  | .or as, ρ, Q, X => dOV as ρ Q X
  | .ife c a b, ρ, Q, X => dT c ρ (fun t ρ1 => if t = true then dE a ρ1 Q X else dE b ρ1 Q X) X
  | .tup as, ρ, Q, X => dA as ρ (fun rs ρ1 => w2 (keepAll rs ρ1) fun ds ρ2 => ds.length ≤ line ∧ Q (.sh (.tup ds)) ρ2) X
  | .lst as, ρ, Q, X => dA as ρ (fun rs ρ1 => w2 (keepAll rs ρ1) fun ds ρ2 => ds.length ≤ line ∧ Q (.fr ds) ρ2) X
  | .ix a b, ρ, Q, X => dE a ρ (fun ra ρ1 => dE b ρ1 (fun rb ρ2 => w1 (val ρ2 ra) fun x => w1 (val ρ2 rb) fun y => w1 (dIx x y) fun z => Q (.sh z) ρ2) X) X
  | .sl a lo hi, ρ, Q, X => dE a ρ (fun ra ρ1 => dO lo ρ1 (fun l ρ2 => dO hi ρ2 (fun h ρ3 => wL (val ρ3 ra) fun ds => Q (.fr (cutD ds l h)) ρ3) X) X) X
  | .rev a, ρ, Q, X => dE a ρ (fun ra ρ1 => wL (val ρ1 ra) fun ds => Q (.fr ds.reverse) ρ1) X
  | .call f as, ρ, Q, X => dA as ρ (fun rs ρ1 => dCall (Γ.f f) rs ρ1 Q X) X
  | .callk f as ks kas, ρ, Q, X => dA as ρ (fun rs ρ1 => dA kas ρ1 (fun qs ρ2 => dCall (Γ.fk f ks) (rs ++ qs) ρ2 Q X) X) X
  | .make c as, ρ, Q, X => dA as ρ (fun rs ρ1 => dCall (Γ.mke c) rs ρ1 Q X) X
  | .bi f as, ρ, Q, X => dA as ρ (fun rs ρ1 => w1 (vals ρ1 rs) fun ds => dBi f ds fun r => Q r ρ1) X
  | .leni a, ρ, Q, X => dE a ρ (fun ra ρ1 => wN (val ρ1 ra) fun c fs => w1 (Γ.itf c) fun f => wL (fs.lookup f) fun ds => Q (.sh (.int ds.length)) ρ1) X
  | .isi a c, ρ, Q, X => dE a ρ (fun ra ρ1 => wN (val ρ1 ra) fun c' _ => Γ.isn c = true ∧ Q (.sh (.bl (decide (c' = c)))) ρ1) X
  | .meth o m as, ρ, Q, X => dE o ρ (fun ro ρ1 => wN (val ρ1 ro) fun c fs => fs.lookup m = none ∧ (Γ.m c m).isSome = true ∧ dA as ρ1 (fun rs ρ2 => dCall (Γ.m c m) (.sh (.ins c fs) :: rs) ρ2 Q X) X) X
  | .attr o f, ρ, Q, X => dE o ρ (fun ro ρ1 => wN (val ρ1 ro) fun c fs => Γ.fld c f = true ∧ w1 (fs.lookup f) fun d => Q (.sh d) ρ1) X
  | .prop o f, ρ, Q, X => dE o ρ (fun ro ρ1 => wN (val ρ1 ro) fun c fs => dCall (Γ.p c f) [.sh (.ins c fs)] ρ1 Q nEx) X
  | .index o a, ρ, Q, X => dE o ρ (fun ro ρ1 => wL (val ρ1 ro) fun _ => dE a ρ1 (fun ra ρ2 => wL (val ρ2 ro) fun ds => w1 (val ρ2 ra) fun x => ds.all flatD = true ∧ flatD x = true ∧
      w1 (ds.findIdx? fun y => eqD y x) fun j => Q (.sh (.int (j : Nat))) ρ2) X) X
  | .eqi a b, ρ, Q, X => dE a ρ (fun ra ρ1 => dE b ρ1 (fun rb ρ2 => wN (val ρ2 ra) fun c fs => wN (val ρ2 rb) fun c' fs' => c = c' ∧ dCall (Γ.m c "__eq__") [.sh (.ins c fs), .sh (.ins c' fs')] ρ2 (fun r ρ' => ∃ t, r = .sh (.bl t) ∧ Q r ρ') nEx) X) X
  | .lc elt tg it ifs own, ρ, Q, X => dI it ρ (fun ds ρ1 => freeE ρ1 own = true ∧ ∃ W : Nat → List D → En → Prop, W 0 [] (wipeE ρ1 own) ∧
      (∀ k acc ρ' d, ds[k]? = some d → W k acc ρ' → dTg tg d ρ' fun ρ2 => dIf ifs ρ2 (fun t ρ3 =>
        if t = true then dE elt ρ3 (fun r ρ4 => w2 (keep ρ4 r) fun d' ρ5 => acc.length < line ∧ W (k + 1) (acc ++ [d']) (wipeE ρ5 own)) nEx
        else W (k + 1) acc (wipeE ρ3 own)) nEx) ∧
      ∀ acc ρ', W ds.length acc ρ' → Q (.fr acc) (backE ρ1 own ρ')) X
  | .lrg as, ρ, Q, X => dA as ρ (fun rs ρ1 => rngA (vals ρ1 rs) fun i j => (j - i).toNat ≤ line ∧ Q (.fr (rngD i j)) ρ1) X
  | .leno i, ρ, Q, _ => match ρ[i]? with
    | some (.on dss) => Q (.sh (.int dss.length)) ρ
    | _ => False
  | .lset a, ρ, Q, X => dE a ρ (fun r ρ1 => wL (val ρ1 r) fun ds => w1 (intsOf ds) fun ns => ns.length < 4000 ∧ Q (.sh (.int (card ns))) ρ1) X
  | .lsc elt tg it own, ρ, Q, X => dI it ρ (fun ds ρ1 => freeE ρ1 own = true ∧ ∃ W : Nat → List Int → En → Prop, W 0 [] (wipeE ρ1 own) ∧
      (∀ k acc ρ' d, ds[k]? = some d → W k acc ρ' → dTg tg d ρ' fun ρ2 => dE elt ρ2 (fun r ρ4 => wI (val ρ4 r) fun i => acc.length < 4000 ∧ W (k + 1) (acc ++ [i]) (wipeE ρ4 own)) nEx) ∧
      ∀ acc ρ', W ds.length acc ρ' → Q (.sh (.int (card acc))) (backE ρ1 own ρ')) X
  | .isb a c, ρ, Q, X => dE a ρ (fun r ρ1 => w1 (val ρ1 r) fun d => isB c d = true ∧ Q (.sh (.bl true)) ρ1) X
  | .lend i a, ρ, Q, X => slO ρ[i]? fun ds => dE a (ρ.set i (.bo ds)) (fun r ρ' => r.okL = true ∧ sameB i ρ ρ' ∧ Q r (ρ'.set i (.ow ds))) (fun x ρ' => sameB i ρ ρ' ∧ X x (ρ'.set i (.ow ds)))
  | .dc0, ρ, Q, _ => Q (.fd []) ρ
  | .dc1 i, ρ, Q, _ => kyI ρ[i]? fun k => Q (.fd [(k, .non)]) ρ
  | .dg i a, ρ, Q, X => slD ρ[i]? fun _ => dE a ρ (fun r ρ1 => wI (val ρ1 r) fun k => slD ρ1[i]? fun kvs => w1 (atK kvs k) fun d => Q (.sh d) ρ1) X
  | .din neg a i, ρ, Q, X => dE a ρ (fun r ρ1 => wI (val ρ1 r) fun k => slD ρ1[i]? fun kvs => Q (.sh (.bl ((atK kvs k).isSome != neg))) ρ1) X
  | .sset a, ρ, Q, X => dE a ρ (fun r ρ1 => wL (val ρ1 r) fun ds => w1 (intsOf ds) fun ns => (ns.length < 4000 ∧ card ns < 64) ∧ ∀ ms : List Int, ms.Pairwise (· < ·) → (∀ k, k ∈ ms ↔ k ∈ ns) → Q (.fr (ms.map D.int)) ρ1) X
/-- as a test -/
def dT : B → En → (Bool → En → Prop) → QX → Prop
  | .not a, ρ, Q, X => dT a ρ (fun t ρ1 => Q (!t) ρ1) X
  | .and as, ρ, Q, X => dAT as ρ Q X
  | .or as, ρ, Q, X => dOT as ρ Q X
  | .cmp op a b, ρ, Q, X => dE a ρ (fun ra ρ1 => dE b ρ1 (fun rb ρ2 => w1 (val ρ2 ra) fun x => w1 (val ρ2 rb) fun y => w1 (dCm op x y) fun t => Q t ρ2) X) X
  | .chn p q a b c, ρ, Q, X => dE a ρ (fun ra ρ1 => dE b ρ1 (fun rb ρ2 => w1 (val ρ2 ra) fun x => w1 (val ρ2 rb) fun y => w1 (dCm p x y) fun t =>
      if t = true then dE c ρ2 (fun rc ρ3 => w1 (val ρ3 rb) fun y => w1 (val ρ3 rc) fun z => w1 (dCm q y z) fun t' => Q t' ρ3) X else Q false ρ2) X) X
  | .ex e, ρ, Q, X => dE e ρ (fun r ρ1 => w1 (val ρ1 r) fun d => w1 (dTru d) fun t => Q t ρ1) X
def dA : Es → En → (List R → En → Prop) → QX → Prop
  | .nil, ρ, Q, _ => Q [] ρ
  | .cons e r, ρ, Q, X => dE e ρ (fun x ρ1 => dA r ρ1 (fun xs ρ2 => Q (x :: xs) ρ2) X) X
/-- an optional part of a slice -/
def dO : Es → En → (Option Int → En → Prop) → QX → Prop
  | .nil, ρ, Q, _ => Q none ρ
  | .cons e _, ρ, Q, X => dE e ρ (fun r ρ1 => wI (val ρ1 r) fun i => Q (some i) ρ1) X
def dIf : Bs → En → (Bool → En → Prop) → QX → Prop
  | .nil, ρ, Q, _ => Q true ρ
  | .cons e _, ρ, Q, X => dT e ρ Q X
def dAT : Bs → En → (Bool → En → Prop) → QX → Prop
  | .nil, _, _, _ => False
  | .cons e r, ρ, Q, X => dT e ρ (fun t ρ1 => match r with
      | .nil => Q t ρ1
      | .cons _ _ => if t = true then dAT r ρ1 Q X else Q false ρ1) X
def dOT : Bs → En → (Bool → En → Prop) → QX → Prop
  | .nil, _, _, _ => False
  | .cons e r, ρ, Q, X => dT e ρ (fun t ρ1 => match r with
      | .nil => Q t ρ1
      | .cons _ _ => if t = true then Q true ρ1 else dOT r ρ1 Q X) X
def dAV : Es → En → QE → QX → Prop
  | .nil, _, _, _ => False
  | .cons e r, ρ, Q, X => match r with
      | .nil => dE e ρ Q X
      | .cons _ _ => dE e ρ (fun x ρ1 => ∃ t, val ρ1 x = some (.bl t) ∧ if t = true then dAV r ρ1 Q X else Q (.sh (.bl false)) ρ1) X
def dOV : Es → En → QE → QX → Prop
  | .nil, _, _, _ => False
  | .cons e r, ρ, Q, X => match r with
      | .nil => dE e ρ Q X
      | .cons _ _ => dE e ρ (fun x ρ1 => ∃ t, val ρ1 x = some (.bl t) ∧ if t = true then Q (.sh (.bl true)) ρ1 else dOV r ρ1 Q X) X
/-- what is walked: its items -/
def dI : I → En → (List D → En → Prop) → QX → Prop
  | .ex e, ρ, Q, X => dE e ρ (fun r ρ1 => itemsR Γ ρ1 r Q) X
  | .rng as, ρ, Q, X => dA as ρ (fun rs ρ1 => rngA (vals ρ1 rs) fun i j => Q (rngD i j) ρ1) X
  | .enu e, ρ, Q, X => dE e ρ (fun r ρ1 => notTup (val ρ1 r) = true ∧ itemsR Γ ρ1 r fun ds ρ2 => Q (enumD ds) ρ2) X
  | .zip a b, ρ, Q, X => dE a ρ (fun ra ρ1 => dE b ρ1 (fun rb ρ2 => w2 (keep ρ2 ra) fun x ρ3 => w2 (keep ρ3 rb) fun y ρ4 => wL (some x) fun as => wL (some y) fun bs => as.length = bs.length ∧ Q (zipD as bs) ρ4) X) X
end
/-! ### an except suite -/
section
variable (t : Str → Str → Option Bool) (fl : Str → Str → Bool) (x : Exn)
def hB : HB → Option Bool
  | .is c => t x.cls c
  | .not a => (hB a).map (!·)
  | .and a b => match hB a with
    | some true => hB b
    | some false => some false
    | none => none
mutual
def hX : HX → Option D
  | .int n => some (.int n)
  | .str s => some (.str s)
  | .non => some .non
  | .bl b => some (.bl b)
  | .att f => if fl x.cls f = true then x.fs.lookup f else none
  | .tup as => match hXs as with
    | some ds => if ds.length ≤ line then some (.tup ds) else none
    | none => none
  | .ife c a b => match hB t x c with
    | some true => hX a
    | some false => hX b
    | none => none
def hXs : HXs → Option (List D)
  | .nil => some []
  | .cons a r => match hX a with
    | some d => (hXs r).map (d :: ·)
    | none => none
end
def hS : HS → Option D
  | .ret a => hX t fl x a
  | .iff c a r => match hB t x c with
    | some true => hX t fl x a
    | some false => hS r
    | none => none
end
/-- no list of lists stands at i, none of its lists is named -/
def noG (i : Nat) (ρ : En) : Bool := (match ρ[i]? with
  | some (.on _) => false
  | some (.io _) => false
  | _ => true) && ρ.all fun s => match s with
  | .al o _ _ => o != i
  | _ => true
/-- list j of slot o's lists is told anew -/
def upG (o j : Nat) (new : List D) (ρ : En) : En := ρ.mapIdx fun i s => match s with
  | .on dss => if i = o then .on (dss.set j new) else .on dss
  | .al o' j' ds => if o' = o ∧ j' = j then .al o j new else .al o' j' ds
  | s => s
def slG (s : Option Sl) (k : List (List D) → Prop) : Prop := match s with
  | some (.on dss) => k dss
  | _ => False
def slA (s : Option Sl) (k : Nat → Nat → List D → Prop) : Prop := match s with
  | some (.al o j ds) => k o j ds
  | _ => False
/-- what is wanted behind a statement -/
structure Po where
  nx : En → Prop
  rt : R → En → Prop
  bk : En → Prop
  ct : En → Prop
  ex : QX
def Po.sq (P : Po) (n : En → Prop) : Po := ⟨n, P.rt, P.bk, P.ct, P.ex⟩
def Po.lp (P : Po) (n b : En → Prop) : Po := ⟨n, P.rt, b, n, P.ex⟩
/-- a list that one may change: its items, and the slot with others -/
def mutL (ρ : En) : R → Option (List D × (List D → En))
  | .br i => match ρ[i]? with
    | some (.ow ds) => some (ds, fun es => ρ.set i (.ow es))
    | some (.io ds) => some (ds, fun es => ρ.set i (.io es))
    | _ => none
  | _ => none
def augI (op : Op) (x y : Int) (k : Int → Prop) : Prop := match op with
  | .add => k (x + y)
  | .sub => k (x - y)
  | _ => False
def slI (s : Option Sl) (k : Int → Prop) : Prop := match s with
  | some (.sh (.int i)) => k i
  | _ => False
mutual
def dS : S → En → Po → Prop
  | .asg tg e, ρ, P => dE Γ e ρ (fun r ρ1 => match tg with
      | .nm i => setSl i r ρ1 P.nx
      | tg => w2 (keep ρ1 r) fun d ρ2 => dTg tg d ρ2 P.nx) P.ex
  | .par i j a b, ρ, P => dE Γ a ρ (fun ra ρ1 => dE Γ b ρ1 (fun rb ρ2 => w2 (keep ρ2 ra) fun x ρ3 => w2 (keep ρ3 rb) fun y ρ4 =>
      i ≠ j ∧ isIo ρ4[i]? = false ∧ isIo ρ4[j]? = false ∧ P.nx ((ρ4.set i (.sh x)).set j (.sh y))) P.ex) P.ex
  | .set o i e, ρ, P => dE Γ e ρ (fun re ρ1 => dE Γ o ρ1 (fun ro ρ2 => dE Γ i ρ2 (fun ri ρ3 => wI (val ρ3 ri) fun k => w2 (keep ρ3 re) fun d ρ4 =>
      w2 (mutL ρ4 ro) fun ds f => w1 (L2.ixN ds.length k) fun j => P.nx (f (ds.set j d))) P.ex) P.ex) P.ex
  | .aug i op e, ρ, P => slI ρ[i]? fun x => dE Γ e ρ (fun re ρ1 => wI (val ρ1 re) fun y => augI op x y fun z => isIo ρ1[i]? = false ∧ P.nx (ρ1.set i (.sh (.int z)))) P.ex
  | .augs o i op e, ρ, P => dE Γ o ρ (fun ro ρ1 => dE Γ i ρ1 (fun ri ρ2 => wI (val ρ2 ri) fun k => w2 (mutL ρ2 ro) fun ds _ => w1 (L2.ixN ds.length k) fun j => wI ds[j]? fun x =>
      dE Γ e ρ2 (fun re ρ3 => wI (val ρ3 re) fun y => w2 (mutL ρ3 ro) fun ds' f => ds' = ds ∧ augI op x y fun z => P.nx (f (ds.set j (.int z)))) P.ex) P.ex) P.ex
  | .app o e, ρ, P => dE Γ o ρ (fun ro ρ1 => (mutL ρ1 ro).isSome = true ∧ dE Γ e ρ1 (fun re ρ2 => w2 (keep ρ2 re) fun d ρ3 => w2 (mutL ρ3 ro) fun ds f => ds.length < line ∧ P.nx (f (ds ++ [d]))) P.ex) P.ex
  | .ext o e, ρ, P => dE Γ o ρ (fun ro ρ1 => (mutL ρ1 ro).isSome = true ∧ dE Γ e ρ1 (fun re ρ2 => w2 (keep ρ2 re) fun d ρ3 => wL (some d) fun es => w2 (mutL ρ3 ro) fun ds f => ds.length + es.length ≤ line ∧ P.nx (f (ds ++ es))) P.ex) P.ex
  | .pop i o, ρ, P => dE Γ o ρ (fun ro ρ1 => w2 (mutL ρ1 ro) fun ds f => w1 ds.getLast? fun d => isIo (f ds.dropLast)[i]? = false ∧ P.nx ((f ds.dropLast).set i (.sh d))) P.ex
  | .ex e, ρ, P => dE Γ e ρ (fun _ ρ1 => P.nx ρ1) P.ex
  | .ret e, ρ, P => dE Γ e ρ P.rt P.ex
  | .retn, ρ, P => P.rt (.sh .non) ρ
  | .iff c a b, ρ, P => dT Γ c ρ (fun t ρ1 => if t = true then dSs a ρ1 P else dSs b ρ1 P) P.ex
  | .whl c b, ρ, P => ∃ W : Nat → En → Prop, (∃ m, W m ρ) ∧ ∀ m ρ', W m ρ' → dT Γ c ρ' (fun t ρ1 => if t = true then
      dSs b ρ1 (P.lp (fun ρ2 => ∃ m', m' < m ∧ W m' ρ2) P.nx) else P.nx ρ1) P.ex
  | .forr tg it b, ρ, P => dI Γ it ρ (fun ds ρ1 => ∃ W : Nat → En → Prop, W 0 ρ1 ∧
      (∀ k ρ' d, ds[k]? = some d → W k ρ' → dTg tg d ρ' fun ρ2 => dSs b ρ2 (P.lp (W (k + 1)) P.nx)) ∧
      ∀ ρ', W ds.length ρ' → P.nx ρ') P.ex
  | .brk, ρ, P => P.bk ρ
  | .cnt, ρ, P => P.ct ρ
  | .pass, ρ, P => P.nx ρ
  | .dead, _, _ => False
  | .rais c as, ρ, P => dA Γ as ρ (fun rs ρ1 => w2 (keepAll rs ρ1) fun ds ρ2 => ds.length ≤ 1000 ∧ w1 (Γ.exn c) fun fx => w1 (fx ds) fun fs => P.ex ⟨c, fs⟩ ρ2) P.ex
  | .tryx b i c h, ρ, P => dSs b ρ ⟨P.nx, P.rt, P.bk, P.ct, fun x ρ' => Γ.isx x.cls c = some true ∧ i < ρ'.length ∧ w1 (hS Γ.isx Γ.xfl x h) fun d => P.rt (.sh d) (ρ'.set i .top)⟩
  | .onw i as, ρ, P => dA Γ as ρ (fun rs ρ1 => w2 (keepAll rs ρ1) fun ds ρ2 => ds.length ≤ line ∧ i < ρ2.length ∧ noG i ρ2 = true ∧ P.nx (ρ2.set i (.on [ds]))) P.ex
  | .ona o as, ρ, P => slG ρ[o]? fun _ => dA Γ as ρ (fun rs ρ1 => w2 (keepAll rs ρ1) fun ds ρ2 => slG ρ2[o]? fun dss => ds.length ≤ line ∧ dss.length < line ∧ P.nx (ρ2.set o (.on (dss ++ [ds])))) P.ex
  | .ali i o e, ρ, P => slG ρ[o]? fun _ => dE Γ e ρ (fun re ρ1 => wI (val ρ1 re) fun k => slG ρ1[o]? fun dss => w1 (L2.ixN dss.length k) fun j => w1 dss[j]? fun ds => i ≠ o ∧ isIo ρ1[i]? = false ∧ P.nx (ρ1.set i (.al o j ds))) P.ex
  | .dst o k v, ρ, P => dE Γ v ρ (fun rv ρ1 => slC ρ1[o]? fun _ => dE Γ k ρ1 (fun rk ρ2 => wI (val ρ2 rk) fun i => w2 (keep ρ2 rv) fun d ρ3 => slC ρ3[o]? fun kvs => kvs.length < line ∧ P.nx (ρ3.set o (.dc (putI kvs i d)))) P.ex) P.ex
  | .apa i e, ρ, P => slA ρ[i]? fun _ _ _ => dE Γ e ρ (fun re ρ1 => w2 (keep ρ1 re) fun d ρ2 => slA ρ2[i]? fun o j ds => ds.length < line ∧ P.nx (upG o j (ds ++ [d]) ρ2)) P.ex
def dSs : Ss → En → Po → Prop
  | .nil, ρ, P => P.nx ρ
  | .cons s r, ρ, P => dS s ρ (P.sq fun ρ1 => dSs r ρ1 P)
end
/-- the end of a def: what the io slots hold -/
def outsOf (ρ : En) : List Mo → Nat → Option (List (List D))
  | [], _ => some []
  | .io :: ms, i => match ρ[i]? with
    | some (.io ds) => (outsOf ρ ms (i + 1)).map (ds :: ·)
    | _ => none
  | _ :: ms, i => outsOf ρ ms (i + 1)
def retD (ρ : En) : R → Option Rt
  | .sh d => some (.sh d)
  | .fr ds => some (.fr ds)
  | .br i => match ρ[i]? with
    | some (.sh d) => some (.sh d)
    | some (.ow ds) => some (.fr ds)
    | _ => none
  | .fd _ => none
def startE : List Mo → List D → Option En
  | [], [] => some []
  | .sh :: ms, d :: ds => (startE ms ds).map (Sl.sh d :: ·)
  | .bo :: ms, .lst l :: ds => (startE ms ds).map (Sl.bo l :: ·)
  | .bo :: ms, .dct l :: ds => (startE ms ds).map (Sl.bd l :: ·)
  | .bo :: ms, d :: ds => (startE ms ds).map (Sl.sh d :: ·)
  | .io :: ms, .lst l :: ds => (startE ms ds).map (Sl.io l :: ·)
  | _, _ => none
/-- a body's promise: n more slots -/
def dDef (ms : List Mo) (n : Nat) (b : Ss) : DSp := fun ds Q X => match startE ms ds with
  | none => False
  | some ρ0 => dSs Γ b (ρ0 ++ List.replicate n .top)
    { nx := fun ρ => ∃ o, outsOf ρ ms 0 = some o ∧ Q (.sh .non) o
      rt := fun r ρ => ∃ x o, retD ρ r = some x ∧ outsOf ρ ms 0 = some o ∧ Q x o
      bk := fun _ => False, ct := fun _ => False
      ex := fun x _ => X x }
end M
set_option linter.all false
set_option Elab.async false
set_option maxRecDepth 10000
/-! MiniB: how plain data lies in the heap. -/
namespace M
open PySem PySem.Spec PyProof.Rows L2

mutual
inductive Rep (cl : Str → Addr → Prop) (K : PySem.W.Frag) (F : Hp) : V → D → Prop
  | non : Rep cl K F .non .non
  | bl (b : Bool) : Rep cl K F (.bl b) (.bl b)
  | int (i : Int) : Rep cl K F (.int i) (.int i)
  | str (s : Str) : Rep cl K F (.str s) (.str s)
  | tup {a : Addr} {vs : List V} {ds : List D} : F a = some (.tup vs) → Reps cl K F vs ds → Rep cl K F (.ref a) (.tup ds)
  | lst {a : Addr} {vs : List V} {ds : List D} : F a = some (.lst vs) → Reps cl K F vs ds → Rep cl K F (.ref a) (.lst ds)
  | ins {a C dx : Addr} {c : Str} {fs : List (Str × V)} {es : List (Str × D)} : cl c C → F a = some (.ins C dx fs) → RepF cl K F fs es → Rep cl K F (.ref a) (.ins c es)
  | scr {a : Addr} {ns : List Int} : SqL K F a (ns.map V.int) → Rep cl K F (.ref a) (.scr ns)
  | dct {a : Addr} {vs : List (Key × V)} {kvs : List (Int × D)} : F a = some (.dK vs) → RepK cl K F vs kvs → Rep cl K F (.ref a) (.dct kvs)
/-- an int-keyed dict's entries -/
inductive RepK (cl : Str → Addr → Prop) (K : PySem.W.Frag) (F : Hp) : List (Key × V) → List (Int × D) → Prop
  | nil : RepK cl K F [] []
  | cons {k : Int} {v : V} {d : D} {vs ds} : Rep cl K F v d → RepK cl K F vs ds → RepK cl K F ((Sum.inl k, v) :: vs) ((k, d) :: ds)
inductive Reps (cl : Str → Addr → Prop) (K : PySem.W.Frag) (F : Hp) : List V → List D → Prop
  | nil : Reps cl K F [] []
  | cons {v : V} {d : D} {vs : List V} {ds : List D} : Rep cl K F v d → Reps cl K F vs ds → Reps cl K F (v :: vs) (d :: ds)
inductive RepF (cl : Str → Addr → Prop) (K : PySem.W.Frag) (F : Hp) : List (Str × V) → List (Str × D) → Prop
  | nil : RepF cl K F [] []
  | cons {f : Str} {v : V} {d : D} {vs : List (Str × V)} {ds : List (Str × D)} : Rep cl K F v d → RepF cl K F vs ds → RepF cl K F ((f, v) :: vs) ((f, d) :: ds)
end
section
variable {cl : Str → Addr → Prop} {K : PySem.W.Frag} {F F' : Hp}
mutual
theorem Rep.mono (m : Same F F') : ∀ {v d}, Rep cl K F v d → Rep cl K F' v d
  | _, _, .non => .non
  | _, _, .bl b => .bl b
  | _, _, .int i => .int i
  | _, _, .str s => .str s
  | _, _, .tup h r => .tup (m _ _ h) (Reps.mono m r)
  | _, _, .lst h r => .lst (m _ _ h) (Reps.mono m r)
  | _, _, .ins c h r => .ins c (m _ _ h) (RepF.mono m r)
  | _, _, .scr h => .scr (m.seq h)
  | _, _, .dct h r => .dct (m _ _ h) (RepK.mono m r)
theorem RepK.mono (m : Same F F') : ∀ {vs ds}, RepK cl K F vs ds → RepK cl K F' vs ds
  | _, _, .nil => .nil
  | _, _, .cons h r => .cons (Rep.mono m h) (RepK.mono m r)
theorem Reps.mono (m : Same F F') : ∀ {vs ds}, Reps cl K F vs ds → Reps cl K F' vs ds
  | _, _, .nil => .nil
  | _, _, .cons h r => .cons (Rep.mono m h) (Reps.mono m r)
theorem RepF.mono (m : Same F F') : ∀ {vs ds}, RepF cl K F vs ds → RepF cl K F' vs ds
  | _, _, .nil => .nil
  | _, _, .cons h r => .cons (Rep.mono m h) (RepF.mono m r)
end
theorem Reps.len : ∀ {vs ds}, Reps cl K F vs ds → vs.length = ds.length
  | _, _, .nil => rfl
  | _, _, .cons _ r => congrArg Nat.succ r.len
theorem Reps.get : ∀ {vs ds} {i : Nat} {d : D}, Reps cl K F vs ds → ds[i]? = some d → ∃ v, vs[i]? = some v ∧ Rep cl K F v d
  | _, _, _, _, .nil, h => by simp at h
  | _, _, 0, _, .cons r _, h => by
    simp at h
    subst h
    exact ⟨_, rfl, r⟩
  | _, _, i + 1, _, .cons _ r, h => by
    obtain ⟨v, e, q⟩ := Reps.get (i := i) r (by simpa using h)
    exact ⟨v, by simpa using e, q⟩
theorem Reps.get' : ∀ {vs ds} {i : Nat} {v : V}, Reps cl K F vs ds → vs[i]? = some v → ∃ d, ds[i]? = some d ∧ Rep cl K F v d
  | _, _, _, _, .nil, h => by simp at h
  | _, _, 0, _, .cons r _, h => by
    simp at h
    subst h
    exact ⟨_, rfl, r⟩
  | _, _, i + 1, _, .cons _ r, h => by
    obtain ⟨v, e, q⟩ := Reps.get' (i := i) r (by simpa using h)
    exact ⟨v, by simpa using e, q⟩
theorem Reps.app : ∀ {vs ds ws es}, Reps cl K F vs ds → Reps cl K F ws es → Reps cl K F (vs ++ ws) (ds ++ es)
  | _, _, _, _, .nil, s => s
  | _, _, _, _, .cons h r, s => .cons h (Reps.app r s)
theorem Reps.set {x : V} {d : D} (h : Rep cl K F x d) : ∀ {vs ds} (i : Nat), Reps cl K F vs ds → Reps cl K F (vs.set i x) (ds.set i d)
  | _, _, _, .nil => .nil
  | _, _, 0, .cons _ r => .cons h r
  | _, _, i + 1, .cons q r => .cons q (Reps.set h i r)
theorem Reps.take : ∀ {vs ds} (n : Nat), Reps cl K F vs ds → Reps cl K F (vs.take n) (ds.take n)
  | _, _, 0, _ => .nil
  | _, _, _ + 1, .nil => .nil
  | _, _, n + 1, .cons q r => .cons q (Reps.take n r)
theorem Reps.drop : ∀ {vs ds} (n : Nat), Reps cl K F vs ds → Reps cl K F (vs.drop n) (ds.drop n)
  | _, _, 0, r => r
  | _, _, _ + 1, .nil => .nil
  | _, _, n + 1, .cons _ r => Reps.drop n r
theorem Reps.rev : ∀ {vs ds}, Reps cl K F vs ds → Reps cl K F vs.reverse ds.reverse
  | _, _, .nil => .nil
  | _, _, .cons h r => by
    rw [List.reverse_cons, List.reverse_cons]
    exact (Reps.rev r).app (.cons h .nil)
theorem Reps.cyc {vs ds} (r : Reps cl K F vs ds) : ∀ n : Nat, Reps cl K F (List.replicate n vs).flatten (List.replicate n ds).flatten
  | 0 => .nil
  | n + 1 => by
    rw [List.replicate_succ, List.replicate_succ, List.flatten_cons, List.flatten_cons]
    exact r.app (Reps.cyc r n)
theorem RepF.look {f : Str} : ∀ {vs ds} {d : D}, RepF cl K F vs ds → ds.lookup f = some d → ∃ v, vs.lookup f = some v ∧ Rep cl K F v d
  | _, _, _, .nil, h => by simp at h
  | _, _, _, @RepF.cons _ _ _ g v d vs ds q r, h => by
    rw [List.lookup_cons] at h ⊢
    cases e : f == g with
    | true =>
      rw [e] at h
      cases h
      exact ⟨v, rfl, q⟩
    | false =>
      rw [e] at h
      exact RepF.look r h
theorem RepF.look0 {f : Str} : ∀ {vs ds}, RepF cl K F vs ds → ds.lookup f = none → vs.lookup f = none
  | _, _, .nil, _ => rfl
  | _, _, @RepF.cons _ _ _ g v d vs ds q r, h => by
    rw [List.lookup_cons] at h ⊢
    cases e : f == g with
    | true =>
      rw [e] at h
      cases h
    | false =>
      rw [e] at h
      exact RepF.look0 r h
end

/-! ### a call's fixed part, and what holds between its steps -/
structure Ct where
  F0 : Hp
  H0 : Hp
  ios : List (Nat × Addr)
  bl : Addr → Prop
  /-- the entry's heap; H0 may have more: lists of lists that this call made, by the slot that holds them -/
  B : Hp
  gh : Nat → Option (Addr × List Addr)
  hb : ∀ a, bl a → B a ≠ none
  gB : ∀ a o, B a = some o → H0 a = some o
  gl : ∀ i a as, gh i = some (a, as) → H0 a = some (.lst (as.map V.ref)) ∧ (a :: as).Nodup
  gf : ∀ i a as b, gh i = some (a, as) → b ∈ a :: as → H0 b ≠ none ∧ F0 b = none ∧ B b = none ∧ ∀ j, (j, b) ∉ ios
  gd : ∀ i j a as a' as' b, gh i = some (a, as) → gh j = some (a', as') → i ≠ j → b ∈ a :: as → b ∉ a' :: as'
/-- at the entry: no list of lists -/
def ct0 (F H : Hp) (ios : List (Nat × Addr)) (bl : Addr → Prop) (hb : ∀ a, bl a → H a ≠ none) : Ct where
  F0 := F
  H0 := H
  ios := ios
  bl := bl
  B := H
  gh := fun _ => none
  hb := hb
  gB := fun _ _ h => h
  gl := fun _ _ _ h => nomatch h
  gf := fun _ _ _ _ h => nomatch h
  gd := fun _ _ _ _ _ _ _ h => nomatch h
def Sl.own : Sl → Bool
  | .ow _ => true
  | .io _ => true
  | .dc _ => true
  | _ => false
section
variable (cl : Str → Addr → Prop) (K : PySem.W.Frag)
def SlR (c : Ct) (F H : Hp) (i : Nat) (v : Option (Option V)) : Sl → Prop
  | .top => True
  | .sh d => ∃ x, v = some (some x) ∧ Rep cl K F x d
  | .bo ds => ∃ a vs, v = some (some (.ref a)) ∧ c.B a = some (.lst vs) ∧ ((∀ j, (j, a) ∉ c.ios) ∧ c.bl a) ∧ Reps cl K F vs ds
  | .bd ds => ∃ a vs, v = some (some (.ref a)) ∧ c.B a = some (.dK vs) ∧ ((∀ j, (j, a) ∉ c.ios) ∧ c.bl a) ∧ RepK cl K F vs ds
  | .ow ds => ∃ a vs, v = some (some (.ref a)) ∧ c.H0 a = none ∧ F a = none ∧ H a = some (.lst vs) ∧ Reps cl K F vs ds
  | .io ds => ∃ a vs, v = some (some (.ref a)) ∧ (i, a) ∈ c.ios ∧ F a = none ∧ H a = some (.lst vs) ∧ Reps cl K F vs ds
  | .dc kvs => ∃ a vs, v = some (some (.ref a)) ∧ c.H0 a = none ∧ F a = none ∧ H a = some (.dK vs) ∧ RepK cl K F vs kvs
  | .on dss => ∃ a as, v = some (some (.ref a)) ∧ c.gh i = some (a, as) ∧ as.length = dss.length ∧ ∀ (j : Nat) b ds, as[j]? = some b → dss[j]? = some ds → ∃ vs, c.H0 b = some (.lst vs) ∧ Reps cl K F vs ds
  | .al o j ds => ∃ a as b vs, c.gh o = some (a, as) ∧ as[j]? = some b ∧ v = some (some (.ref b)) ∧ c.H0 b = some (.lst vs) ∧ Reps cl K F vs ds
structure Rl (c : Ct) (F : Hp) (ρ : En) (σ : L2.St) (H : Hp) : Prop where
  len : ρ.length = σ.length
  fh : Same F H
  f0 : Same c.F0 F
  fn : ∀ a, F a ≠ none → c.F0 a = none → c.H0 a = none
  kp : ∀ a o, c.H0 a = some o → (∀ j, (j, a) ∉ c.ios) → H a = some o
  sl : ∀ (i : Nat) s, ρ[i]? = some s → SlR cl K c F H i σ[i]? s
  ap : ∀ (i j : Nat) s t a, i ≠ j → ρ[i]? = some s → ρ[j]? = some t → s.own = true → t.own = true → σ[i]? = some (some (V.ref a)) → σ[j]? ≠ some (some (V.ref a))
  io : ∀ j a, (j, a) ∈ c.ios → c.H0 a ≠ none ∧ H a ≠ none
/-- a result at v -/
def ResR (c : Ct) (F : Hp) (ρ : En) (σ : L2.St) (H : Hp) (v : V) : R → Prop
  | .sh d => Rep cl K F v d
  | .fr ds => ∃ a vs, v = .ref a ∧ c.H0 a = none ∧ F a = none ∧ H a = some (.lst vs) ∧ Reps cl K F vs ds ∧ ∀ (i : Nat) s, ρ[i]? = some s → s.own = true → σ[i]? ≠ some (some (V.ref a))
  | .br i => σ[i]? = some (some v)
  | .fd kvs => ∃ a vs, v = .ref a ∧ c.H0 a = none ∧ F a = none ∧ H a = some (.dK vs) ∧ RepK cl K F vs kvs ∧ ∀ (i : Nat) s, ρ[i]? = some s → s.own = true → σ[i]? ≠ some (some (V.ref a))
/-- a result that is kept while more is reckoned -/
def Held (F : Hp) (σ : L2.St) (v : V) : R → Prop
  | .sh d => Rep cl K F v d
  | .fr ds => Rep cl K F v (.lst ds)
  | .br i => σ[i]? = some (some v)
  | .fd _ => True
/-- data as it is to be read -/
def Vw (F H : Hp) (v : V) (d : D) : Prop := match d with
  | .lst ds => ∃ a vs, v = .ref a ∧ H a = some (.lst vs) ∧ Reps cl K F vs ds
  | .dct ds => ∃ a vs, v = .ref a ∧ H a = some (.dK vs) ∧ RepK cl K F vs ds
  | d => Rep cl K F v d
end
section
variable {cl : Str → Addr → Prop} {K : PySem.W.Frag} {c : Ct} {F F' H H' : Hp} {ρ ρ' : En} {σ : L2.St} {v : V}
theorem Same.upd {p : Addr} {o : HO} (h : F p = none) : Same F (L2.upd F p o) := fun a u e => by
  rw [upd_ne (ne_of_none e h)]
  exact e
theorem Rep.vw {d : D} (m : Same F H) (h : Rep cl K F v d) : Vw cl K F H v d := by
  cases h with
  | lst h r => exact ⟨_, _, rfl, m _ _ h, r⟩
  | dct h r => exact ⟨_, _, rfl, m _ _ h, r⟩
  | _ => first | exact .non | exact .bl _ | exact .int _ | exact .str _ | (constructor <;> assumption)
/-- a slot's word under a larger frozen part -/
theorem SlR.freeze {i : Nat} {u : Option (Option V)} {s : Sl} {p : Addr} {o : HO} (hp : F p = none) (hne : s.own = true → u ≠ some (some (V.ref p))) (h : SlR cl K c F H i u s) : SlR cl K c (L2.upd F p o) H i u s := by
  have m : Same F (L2.upd F p o) := Same.upd hp
  cases s with
  | top => trivial
  | sh d => obtain ⟨x, e, r⟩ := h; exact ⟨x, e, r.mono m⟩
  | bo ds => obtain ⟨a, vs, e, h0, hi, r⟩ := h; exact ⟨a, vs, e, h0, hi, r.mono m⟩
  | bd ds => obtain ⟨a, vs, e, h0, hi, r⟩ := h; exact ⟨a, vs, e, h0, hi, r.mono m⟩
  | ow ds =>
    obtain ⟨a, vs, e, h0, hf, hh, r⟩ := h
    refine ⟨a, vs, e, h0, ?_, hh, r.mono m⟩
    rw [upd_ne fun z => hne rfl (by rw [e, z])]
    exact hf
  | io ds =>
    obtain ⟨a, vs, e, h0, hf, hh, r⟩ := h
    refine ⟨a, vs, e, h0, ?_, hh, r.mono m⟩
    rw [upd_ne fun z => hne rfl (by rw [e, z])]
    exact hf
  | dc ds =>
    obtain ⟨a, vs, e, h0, hf, hh, r⟩ := h
    refine ⟨a, vs, e, h0, ?_, hh, r.mono m⟩
    rw [upd_ne fun z => hne rfl (by rw [e, z])]
    exact hf
  | on dss =>
    obtain ⟨a, as, e, g, l, q⟩ := h
    refine ⟨a, as, e, g, l, fun j b ds h1 h2 => ?_⟩
    obtain ⟨vs, h3, r⟩ := q j b ds h1 h2
    exact ⟨vs, h3, r.mono m⟩
  | al o j ds =>
    obtain ⟨a, as, b, vs, g, h1, e, h3, r⟩ := h
    exact ⟨a, as, b, vs, g, h1, e, h3, r.mono m⟩
/-- an own object is frozen -/
theorem Rl.freeze {p : Addr} {o : HO} (R : Rl cl K c F ρ σ H) (h0 : c.H0 p = none) (hf : F p = none) (hh : H p = some o) (hne : ∀ (i : Nat) s, ρ[i]? = some s → s.own = true → σ[i]? ≠ some (some (V.ref p))) : Rl cl K c (L2.upd F p o) ρ σ H where
  len := R.len
  fh := fun a u e => by
    by_cases z : a = p
    · rw [z, upd_same] at e
      rw [z, hh]
      exact e
    · rw [upd_ne z] at e
      exact R.fh _ _ e
  f0 := fun a u e => by
    have q := R.f0 a u e
    rw [upd_ne (ne_of_none q hf)]
    exact q
  fn := fun a e z => by
    by_cases y : a = p
    · rw [y]
      exact h0
    · rw [upd_ne y] at e
      exact R.fn a e z
  kp := R.kp
  sl := fun i s e => (R.sl i s e).freeze hf (hne i s e)
  ap := R.ap
  io := R.io
/-- a new object is laid -/
theorem SlR.alloc {i : Nat} {u : Option (Option V)} {s : Sl} {p : Addr} {o : HO} (hp : H p = none) (h : SlR cl K c F H i u s) : SlR cl K c F (L2.upd H p o) i u s := by
  cases s with
  | top => trivial
  | sh d => exact h
  | bo ds => exact h
  | ow ds => obtain ⟨a, vs, e, h0, hf, hh, r⟩ := h; exact ⟨a, vs, e, h0, hf, by rw [upd_ne (ne_of_none hh hp)]; exact hh, r⟩
  | io ds => obtain ⟨a, vs, e, h0, hf, hh, r⟩ := h; exact ⟨a, vs, e, h0, hf, by rw [upd_ne (ne_of_none hh hp)]; exact hh, r⟩
  | dc ds => obtain ⟨a, vs, e, h0, hf, hh, r⟩ := h; exact ⟨a, vs, e, h0, hf, by rw [upd_ne (ne_of_none hh hp)]; exact hh, r⟩
  | on dss => exact h
  | al o j ds => exact h
  | bd ds => exact h
theorem Rl.alloc {p : Addr} {o : HO} (R : Rl cl K c F ρ σ H) (hp : H p = none) : Rl cl K c F ρ σ (L2.upd H p o) where
  len := R.len
  fh := fun a u e => by
    have q := R.fh a u e
    rw [upd_ne (ne_of_none q hp)]
    exact q
  f0 := R.f0
  fn := R.fn
  kp := fun a u e z => by
    have q := R.kp a u e z
    rw [upd_ne (ne_of_none q hp)]
    exact q
  sl := fun i s e => (R.sl i s e).alloc hp
  ap := R.ap
  io := fun j a z => ⟨(R.io j a z).1, fun e => by
    by_cases y : a = p
    · rw [y, upd_same] at e
      cases e
    · rw [upd_ne y] at e
      exact (R.io j a z).2 e⟩
/-- what was not there at the entry and is not there now -/
theorem Rl.new0 {p : Addr} (R : Rl cl K c F ρ σ H) (hp : H p = none) : c.H0 p = none := by
  cases e : c.H0 p with
  | none => rfl
  | some o =>
    by_cases z : ∃ j, (j, p) ∈ c.ios
    · obtain ⟨j, z⟩ := z
      exact absurd hp (R.io j p z).2
    · rw [R.kp p o e fun j hj => z ⟨j, hj⟩] at hp
      cases hp
theorem Rl.newF {p : Addr} (R : Rl cl K c F ρ σ H) (hp : H p = none) : F p = none := by
  cases e : F p with
  | none => rfl
  | some o =>
    rw [R.fh p o e] at hp
    cases hp
theorem Rl.ne_own {p : Addr} (R : Rl cl K c F ρ σ H) (hp : H p = none) (i : Nat) (s : Sl) (e : ρ[i]? = some s) (ho : s.own = true) : σ[i]? ≠ some (some (V.ref p)) := fun z => by
  have q := R.sl i s e
  cases s with
  | ow ds =>
    obtain ⟨a, vs, e1, _, _, hh, _⟩ := q
    rw [z] at e1
    cases e1
    rw [hp] at hh
    cases hh
  | io ds =>
    obtain ⟨a, vs, e1, _, _, hh, _⟩ := q
    rw [z] at e1
    cases e1
    rw [hp] at hh
    cases hh
  | dc ds =>
    obtain ⟨a, vs, e1, _, _, hh, _⟩ := q
    rw [z] at e1
    cases e1
    rw [hp] at hh
    cases hh
  | _ => cases ho
/-- a list just made is a result -/
theorem Rl.fresh {p : Addr} {vs : List V} {ds : List D} (R : Rl cl K c F ρ σ H) (hp : H p = none) (r : Reps cl K F vs ds) : Rl cl K c F ρ σ (L2.upd H p (.lst vs)) ∧ ResR cl K c F ρ σ (L2.upd H p (.lst vs)) (.ref p) (.fr ds) :=
  ⟨R.alloc hp, p, vs, rfl, R.new0 hp, R.newF hp, upd_same, r, fun i s e ho => R.ne_own hp i s e ho⟩
/-- a tuple just made is data -/
theorem Rl.tuple {p : Addr} {vs : List V} {ds : List D} (R : Rl cl K c F ρ σ H) (hp : H p = none) (r : Reps cl K F vs ds) :
    Same F (L2.upd F p (.tup vs)) ∧ Rl cl K c (L2.upd F p (.tup vs)) ρ σ (L2.upd H p (.tup vs)) ∧ Rep cl K (L2.upd F p (.tup vs)) (.ref p) (.tup ds) := by
  have m : Same F (L2.upd F p (.tup vs)) := Same.upd (R.newF hp)
  exact ⟨m, (R.alloc hp).freeze (R.new0 hp) (R.newF hp) upd_same fun i s e ho => R.ne_own hp i s e ho, .tup upd_same (r.mono m)⟩
/-- a slot forgotten, or told anew: what it held stays -/
theorem Rl.slot {i : Nat} {s' : Sl} (R : Rl cl K c F ρ σ H) (h : SlR cl K c F H i σ[i]? s') (ho : s'.own = true → ∃ s, ρ[i]? = some s ∧ s.own = true) : Rl cl K c F (ρ.set i s') σ H where
  len := by rw [List.length_set]; exact R.len
  fh := R.fh
  f0 := R.f0
  fn := R.fn
  kp := R.kp
  sl := fun j s e => by
    by_cases z : i = j
    · subst z
      by_cases hl : i < ρ.length
      · rw [List.getElem?_set_self hl] at e
        cases e
        exact h
      · rw [List.getElem?_eq_none (by rw [List.length_set]; omega)] at e
        cases e
    · rw [List.getElem?_set_ne z] at e
      exact R.sl j s e
  ap := fun j k s t a hjk e1 e2 o1 o2 => by
    have back : ∀ (j : Nat) (s : Sl), (ρ.set i s')[j]? = some s → s.own = true → ∃ s0, ρ[j]? = some s0 ∧ s0.own = true := fun j s e o => by
      by_cases z : i = j
      · subst z
        by_cases hl : i < ρ.length
        · rw [List.getElem?_set_self hl] at e
          cases e
          exact ho o
        · rw [List.getElem?_eq_none (by rw [List.length_set]; omega)] at e
          cases e
      · rw [List.getElem?_set_ne z] at e
        exact ⟨s, e, o⟩
    obtain ⟨s0, e3, o3⟩ := back j s e1 o1
    obtain ⟨t0, e4, o4⟩ := back k t e2 o2
    exact R.ap j k s0 t0 a hjk e3 e4 o3 o4
  io := R.io
/-- a name is stored -/
theorem Rl.store {i : Nat} {s' : Sl} {v : V} (R : Rl cl K c F ρ σ H) (hi : i < σ.length) (h : SlR cl K c F H i (some (some v)) s') (ho : s'.own = true → ∀ (j : Nat) s, j ≠ i → ρ[j]? = some s → s.own = true → σ[j]? ≠ some (some v)) : Rl cl K c F (ρ.set i s') (σ.set i (some v)) H where
  len := by rw [List.length_set, List.length_set]; exact R.len
  fh := R.fh
  f0 := R.f0
  fn := R.fn
  kp := R.kp
  sl := fun j s e => by
    have hl : i < ρ.length := by rw [R.len]; exact hi
    by_cases z : i = j
    · subst z
      rw [List.getElem?_set_self hl] at e
      rw [List.getElem?_set_self hi]
      cases e
      exact h
    · rw [List.getElem?_set_ne z] at e
      rw [List.getElem?_set_ne z]
      exact R.sl j s e
  ap := fun j k s t a hjk e1 e2 o1 o2 z1 z2 => by
    have hl : i < ρ.length := by rw [R.len]; exact hi
    by_cases y1 : i = j
    · subst y1
      rw [List.getElem?_set_self hl] at e1
      rw [List.getElem?_set_self hi] at z1
      rw [List.getElem?_set_ne hjk] at e2 z2
      cases e1
      have ez : v = V.ref a := Option.some.inj (Option.some.inj z1)
      refine ho o1 k t (Ne.symm hjk) e2 o2 ?_
      rw [ez]
      exact z2
    · rw [List.getElem?_set_ne y1] at e1 z1
      by_cases y2 : i = k
      · subst y2
        rw [List.getElem?_set_self hl] at e2
        rw [List.getElem?_set_self hi] at z2
        cases e2
        have ez : v = V.ref a := Option.some.inj (Option.some.inj z2)
        refine ho o2 j s (Ne.symm y1) e1 o1 ?_
        rw [ez]
        exact z1
      · rw [List.getElem?_set_ne y2] at e2 z2
        exact R.ap j k s t a hjk e1 e2 o1 o2 z1 z2
  io := R.io
/-- what is kept as a result -/
theorem ResR.keep {r : R} {d : D} (R : Rl cl K c F ρ σ H) (rr : ResR cl K c F ρ σ H v r) (h : keep ρ r = some (d, ρ')) : ∃ F', Same F F' ∧ Rl cl K c F' ρ' σ H ∧ Rep cl K F' v d := by
  cases r with
  | sh e =>
    cases h
    exact ⟨F, Same.refl F, R, rr⟩
  | fr ds =>
    cases h
    obtain ⟨a, vs, rfl, h0, hf, hh, q, ne⟩ := rr
    have m : Same F (L2.upd F a (.lst vs)) := Same.upd hf
    exact ⟨_, m, R.freeze h0 hf hh ne, .lst upd_same (q.mono m)⟩
  | br i =>
    have e0 : σ[i]? = some (some v) := rr
    unfold M.keep at h
    cases es : ρ[i]? with
    | none =>
      simp only [es] at h
      cases h
    | some s =>
      have q := R.sl i s es
      cases s with
      | sh e =>
        simp only [es] at h
        cases h
        obtain ⟨x, e1, r⟩ := q
        rw [e0] at e1
        cases e1
        exact ⟨F, Same.refl F, R, r⟩
      | ow ds =>
        simp only [es] at h
        cases h
        obtain ⟨a, vs, e1, h0, hf, hh, r⟩ := q
        rw [e0] at e1
        cases e1
        have m : Same F (L2.upd F a (.lst vs)) := Same.upd hf
        -- the slot is forgotten, the list frozen, the slot told anew
        have R1 : Rl cl K c F (ρ.set i .top) σ H := R.slot trivial fun z => by cases z
        have hl : i < ρ.length := (List.getElem?_eq_some_iff.mp es).1
        have R2 : Rl cl K c (L2.upd F a (.lst vs)) (ρ.set i .top) σ H := R1.freeze h0 hf hh fun j s e o z => by
          by_cases y : i = j
          · subst y
            rw [List.getElem?_set_self hl] at e
            cases e
            cases o
          · rw [List.getElem?_set_ne y] at e
            exact R.ap i j _ s a y es e rfl o e0 z
        have R3 := R2.slot (i := i) (s' := .sh (.lst ds)) ⟨_, e0, .lst upd_same (r.mono m)⟩ fun z => by cases z
        rw [List.set_set] at R3
        exact ⟨_, m, R3, .lst upd_same (r.mono m)⟩
      | dc ds =>
        simp only [es] at h
        cases h
        obtain ⟨a, vs, e1, h0, hf, hh, r⟩ := q
        rw [e0] at e1
        cases e1
        have m : Same F (L2.upd F a (.dK vs)) := Same.upd hf
        have R1 : Rl cl K c F (ρ.set i .top) σ H := R.slot trivial fun z => by cases z
        have hl : i < ρ.length := (List.getElem?_eq_some_iff.mp es).1
        have R2 : Rl cl K c (L2.upd F a (.dK vs)) (ρ.set i .top) σ H := R1.freeze h0 hf hh fun j s e o z => by
          by_cases y : i = j
          · subst y
            rw [List.getElem?_set_self hl] at e
            cases e
            cases o
          · rw [List.getElem?_set_ne y] at e
            exact R.ap i j _ s a y es e rfl o e0 z
        have R3 := R2.slot (i := i) (s' := .sh (.dct ds)) ⟨_, e0, .dct upd_same (r.mono m)⟩ fun z => by cases z
        rw [List.set_set] at R3
        exact ⟨_, m, R3, .dct upd_same (r.mono m)⟩
      | _ =>
        simp only [es] at h
        cases h
  | fd kvs => cases h
/-- a result is held while more is reckoned -/
theorem ResR.held {r : R} (R : Rl cl K c F ρ σ H) (rr : ResR cl K c F ρ σ H v r) : ∃ F', Same F F' ∧ Rl cl K c F' ρ σ H ∧ Held cl K F' σ v r := by
  cases r with
  | sh e => exact ⟨F, Same.refl F, R, rr⟩
  | fr ds =>
    obtain ⟨F', m, R', q⟩ := rr.keep R (r := .fr ds) rfl
    exact ⟨F', m, R', q⟩
  | br i => exact ⟨F, Same.refl F, R, rr⟩
  | fd kvs => exact ⟨F, Same.refl F, R, trivial⟩
theorem Held.mono {r : R} (m : Same F F') (h : Held cl K F σ v r) : Held cl K F' σ v r := by
  cases r with
  | sh e => exact Rep.mono m h
  | fr ds => exact Rep.mono m h
  | br i => exact h
  | fd kvs => exact h
theorem ResR.vw {r : R} {d : D} (R : Rl cl K c F ρ σ H) (rr : ResR cl K c F ρ σ H v r) (h : val ρ r = some d) : Vw cl K F H v d := by
  cases r with
  | sh e =>
    cases h
    exact Rep.vw R.fh rr
  | fr ds =>
    cases h
    obtain ⟨a, vs, rfl, h0, hf, hh, q, ne⟩ := rr
    exact ⟨a, vs, rfl, hh, q⟩
  | br i =>
    have e0 : σ[i]? = some (some v) := rr
    unfold val at h
    cases es : ρ[i]? with
    | none =>
      simp only [es] at h
      cases h
    | some s =>
      have q := R.sl i s es
      cases s with
      | sh e =>
        simp only [es] at h
        cases h
        obtain ⟨x, e1, r⟩ := q
        rw [e0] at e1
        cases e1
        exact Rep.vw R.fh r
      | bo ds =>
        simp only [es] at h
        cases h
        obtain ⟨a, vs, e1, h0, hi, r⟩ := q
        rw [e0] at e1
        cases e1
        exact ⟨a, vs, rfl, R.kp _ _ (c.gB _ _ h0) hi.1, r⟩
      | ow ds =>
        simp only [es] at h
        cases h
        obtain ⟨a, vs, e1, h0, hf, hh, r⟩ := q
        rw [e0] at e1
        cases e1
        exact ⟨a, vs, rfl, hh, r⟩
      | io ds =>
        simp only [es] at h
        cases h
        obtain ⟨a, vs, e1, h0, hf, hh, r⟩ := q
        rw [e0] at e1
        cases e1
        exact ⟨a, vs, rfl, hh, r⟩
      | al o j ds =>
        simp only [es] at h
        cases h
        obtain ⟨a, as, b, vs, g, h1, e1, h3, r⟩ := q
        rw [e0] at e1
        cases e1
        exact ⟨b, vs, rfl, R.kp _ _ h3 (c.gf _ _ _ b g (List.mem_cons_of_mem _ (List.mem_of_getElem? h1))).2.2.2, r⟩
      | dc ds =>
        simp only [es] at h
        cases h
        obtain ⟨a, vs, e1, h0, hf, hh, r⟩ := q
        rw [e0] at e1
        cases e1
        exact ⟨a, vs, rfl, hh, r⟩
      | bd ds =>
        simp only [es] at h
        cases h
        obtain ⟨a, vs, e1, h0, hi, r⟩ := q
        rw [e0] at e1
        cases e1
        exact ⟨a, vs, rfl, R.kp _ _ (c.gB _ _ h0) hi.1, r⟩
      | _ =>
        simp only [es] at h
        cases h
  | fd kvs => cases h
theorem Held.vw {r : R} {d : D} (R : Rl cl K c F ρ σ H) (rr : Held cl K F σ v r) (h : val ρ r = some d) : Vw cl K F H v d := by
  cases r with
  | sh e =>
    cases h
    exact Rep.vw R.fh rr
  | fr ds =>
    cases h
    exact Rep.vw R.fh rr
  | br i => exact ResR.vw (r := .br i) R rr h
  | fd kvs => cases h
theorem Held.keep {r : R} {d : D} (R : Rl cl K c F ρ σ H) (rr : Held cl K F σ v r) (h : keep ρ r = some (d, ρ')) : ∃ F', Same F F' ∧ Rl cl K c F' ρ' σ H ∧ Rep cl K F' v d := by
  cases r with
  | sh e => exact ResR.keep (r := .sh e) R rr h
  | fr ds =>
    cases h
    exact ⟨F, Same.refl F, R, rr⟩
  | br i => exact ResR.keep (r := .br i) R rr h
  | fd kvs => cases h
end
end M
set_option linter.all false
set_option Elab.async false
set_option maxRecDepth 10000
/-! MiniC: the promise of a def over plain data; where a body stands; expressions. -/
namespace M
open PySem PySem.Spec PyProof.Rows L2

/-- as FnOk; g: the def may be called only where no repr is under way -/
structure FnG (g : Bool) (P : Program) (w : World) (K : PySem.W.Frag) (mg : Str → Option Value) (base : Heap) (k : Nat) (f : Addr) (fd : FuncData) (ps : List Str) (sp : Sp) : Prop where
  len : ∀ vs H Q E, sp vs H Q E → vs.length = ps.length
  run : ∀ (A : Around) (outer : List PySem.Env) (s : Shared) (H : Hp) (args : Args) (us : List Value) (vs : List V) (Q : VK) (E : XK),
    Room k A → (g = true → A.guards = some []) → Env0 P w K mg base A outer s H → BindsTo s fd args (ps.zip us) → Vals vs us → sp vs H Q E → codeAny (model P w) A (.call (.ref f) args) (CR (L2.CX P w) outer P w H s Q E) s
theorem FnG.of {g : Bool} {P : Program} {w : World} {K : PySem.W.Frag} {mg : Str → Option Value} {base : Heap} {k : Nat} {f : Addr} {fd : FuncData} {ps : List Str} {sp : Sp} (F : FnOk P w K mg base (L2.CX P w) k f fd ps sp) : FnG g P w K mg base k f fd ps sp :=
  ⟨F.len, fun A o s H a us vs Q E hr _ => F.run A o s H a us vs Q E hr⟩
theorem FnG.ok {P : Program} {w : World} {K : PySem.W.Frag} {mg : Str → Option Value} {base : Heap} {k : Nat} {f : Addr} {fd : FuncData} {ps : List Str} {sp : Sp} (F : FnG false P w K mg base k f fd ps sp) : FnOk P w K mg base (L2.CX P w) k f fd ps sp :=
  ⟨F.len, fun A o s H a us vs Q E hr => F.run A o s H a us vs Q E hr fun z => by cases z⟩
theorem FnG.mono {g : Bool} {P : Program} {w : World} {K : PySem.W.Frag} {mg : Str → Option Value} {base : Heap} {j k : Nat} {f : Addr} {fd : FuncData} {ps : List Str} {sp : Sp} (F : FnG g P w K mg base j f fd ps sp) (h : j ≤ k) : FnG g P w K mg base k f fd ps sp :=
  ⟨F.len, fun A o s H a us vs Q E hr => F.run A o s H a us vs Q E (hr.mono h)⟩
theorem FnG.tt {g : Bool} {P : Program} {w : World} {K : PySem.W.Frag} {mg : Str → Option Value} {base : Heap} {k : Nat} {f : Addr} {fd : FuncData} {ps : List Str} {sp : Sp} (F : FnG g P w K mg base k f fd ps sp) : FnG true P w K mg base k f fd ps sp :=
  ⟨F.len, fun A o s H a us vs Q E hr hg => F.run A o s H a us vs Q E hr fun _ => hg rfl⟩
/-- another wording -/
theorem FnG.imp {g : Bool} {P : Program} {w : World} {K : PySem.W.Frag} {mg : Str → Option Value} {base : Heap} {k : Nat} {f : Addr} {fd : FuncData} {ps : List Str} {sp sp' : Sp} (F : FnG g P w K mg base k f fd ps sp) (h : ∀ vs H Q E, sp' vs H Q E → sp vs H Q E) : FnG g P w K mg base k f fd ps sp' :=
  ⟨fun vs H Q E z => F.len vs H Q E (h _ _ _ _ z), fun A o s H a us vs Q E hr hg e0 hb hv hs => F.run A o s H a us vs Q E hr hg e0 hb hv (h _ _ _ _ hs)⟩

/-- n values by place, then those of the keywords ks -/
def BindK (K : PySem.W.Frag) (fd : FuncData) (ps ks : List Str) (ds : List Value) : Prop :=
  ∀ (s : Shared) (us ws : List Value), K.In s.heap → (us ++ ws ++ ds).length = ps.length → ws.length = ks.length → BindsTo s fd ⟨us, ks.zip ws⟩ (ps.zip (us ++ ws ++ ds))
section
variable {X : Cx} {g : Bool} {k : Nat} {f C : Addr} {fd : FuncData} {ps ks : List Str} {sp : Sp} {dvs : List V} {ds : List Value} {E : L2.St → XK}
theorem run_g {pins : List (Addr × Obj)} {σ : L2.St} {H : Hp} {s : Shared} {Q : VK} {us ws : List Value} {vs zs : List V} (F : FnG g X.prog X.w X.K X.mg X.base k f fd ps sp) (hr : Room k X.A) (hg : g = true → X.A.guards = some []) (hb : BindK X.K fd ps ks ds) (hd : Vals dvs ds)
    (hx : PassesAt (L2.CX X.prog X.w) X σ (E σ)) (I : Inv X pins σ H s) (r : Vals vs us) (rz : Vals zs ws) (lz : zs.length = ks.length) (h : sp (vs ++ zs ++ dvs) H Q (E σ)) :
    wpAny (model X.prog X.w) X.A (call (.ref f) us (ks.zip ws)) (EP X pins σ Q) X.xe s := by
  have r3 : Vals (vs ++ zs ++ dvs) (us ++ ws ++ ds) := (r.append rz).append hd
  have b := hb s us ws I.kIn (by rw [← r3.length]; exact F.len _ _ _ _ h) (by rw [← rz.length]; exact lz)
  refine wpAny_call (codeAny_mono (F.run X.A X.stack s H _ _ _ Q (E σ) hr hg I.env0 b r3 h) fun res s' hq => ?_)
  cases res with
  | error e => exact hx pins H s e s' I hq
  | ok fl =>
    cases fl with
    | ret u => exact I.after hq
    | next => exact hq.elim
    | brk => exact hq.elim
    | cont => exact hq.elim
end

/-! ### the promise in the heap's words -/
/-- an argument: data, a list that is lent, a list that is handed in to be changed (at a) -/
def ArgR (cl : Str → Addr → Prop) (K : PySem.W.Frag) (F H : Hp) (v : V) : Mo → D → Prop
  | .sh, d => Rep cl K F v d
  | .bo, .lst l => ∃ a vs, v = .ref a ∧ H a = some (.lst vs) ∧ Reps cl K F vs l
  | .bo, .dct l => ∃ a vs, v = .ref a ∧ H a = some (.dK vs) ∧ RepK cl K F vs l
  | .bo, d => Rep cl K F v d
  | .io, .lst l => ∃ a vs, v = .ref a ∧ F a = none ∧ H a = some (.lst vs) ∧ Reps cl K F vs l
  | .io, _ => False
inductive ArgsR (cl : Str → Addr → Prop) (K : PySem.W.Frag) (F H : Hp) : List V → List Mo → List D → Prop
  | nil : ArgsR cl K F H [] [] []
  | cons {v m d vs ms ds} : ArgR cl K F H v m d → ArgsR cl K F H vs ms ds → ArgsR cl K F H (v :: vs) (m :: ms) (d :: ds)
/-- the addresses of the lists that are handed in to be changed -/
def ioA : List Mo → List V → List Addr
  | .io :: ms, .ref a :: vs => a :: ioA ms vs
  | _ :: ms, _ :: vs => ioA ms vs
  | _, _ => []
/-- .. of those that are lent -/
def boA : List Mo → List V → List D → List Addr
  | .bo :: ms, .ref a :: vs, .lst _ :: ds => a :: boA ms vs ds
  | .bo :: ms, .ref a :: vs, .dct _ :: ds => a :: boA ms vs ds
  | _ :: ms, _ :: vs, _ :: ds => boA ms vs ds
  | _, _, _ => []
/-- what a def gives back -/
def RtR (cl : Str → Addr → Prop) (K : PySem.W.Frag) (F' H H' : Hp) (v : V) : Rt → Prop
  | .sh d => Rep cl K F' v d
  | .fr ds => ∃ a vs, v = .ref a ∧ H a = none ∧ F' a = none ∧ H' a = some (.lst vs) ∧ Reps cl K F' vs ds
inductive OutsR (cl : Str → Addr → Prop) (K : PySem.W.Frag) (F' H' : Hp) : List Addr → List (List D) → Prop
  | nil : OutsR cl K F' H' [] []
  | cons {a as vs l ls} : H' a = some (.lst vs) → F' a = none → Reps cl K F' vs l → OutsR cl K F' H' as ls → OutsR cl K F' H' (a :: as) (l :: ls)
/-- behind a call: what was frozen stays so, new frozen things are new, all that was tracked stays but for the lists that were handed in to be changed -/
structure Aft (F H F' H' : Hp) (as : List Addr) : Prop where
  ff : Same F F'
  fh : Same F' H'
  fn : ∀ a, F' a ≠ none → F a = none → H a = none
  kp : ∀ a o, H a = some o → a ∉ as → H' a = some o
  st : ∀ a ∈ as, H' a ≠ none
/-- an exception: its class, its own dict with the attributes -/
def ExnR (cl : Str → Addr → Prop) (K : PySem.W.Frag) (F' H' : Hp) (x : Exn) (c : Value) (d : Option Addr) : Prop :=
  c = .ref (He.ga K x.cls) ∧ ((d = none ∧ x.fs = []) ∨ ∃ dd gs, d = some dd ∧ H' dd = some (.xd gs) ∧ ∀ f e, x.fs.lookup f = some e → ∃ v, gs.lookup f = some v ∧ Rep cl K F' v e)
def spOf (cl : Str → Addr → Prop) (K : PySem.W.Frag) (fn : Fn) : Sp := fun vs H Q E => ∃ (F : Hp) (ds : List D) (Q1 : Rt → List (List D) → Prop) (X1 : Exn → Prop), Same F H ∧ ArgsR cl K F H vs fn.ps ds ∧ (ioA fn.ps vs).Nodup ∧ (∀ a ∈ ioA fn.ps vs, a ∉ boA fn.ps vs ds) ∧
  fn.sp ds Q1 X1 ∧ (∀ r outs v F' H', Q1 r outs → Aft F H F' H' (ioA fn.ps vs) → RtR cl K F' H H' v r → OutsR cl K F' H' (ioA fn.ps vs) outs → Q v H') ∧
    ∀ x c d F' H', X1 x → Aft F H F' H' (ioA fn.ps vs) → ExnR cl K F' H' x c d → E c d H'
theorem ArgsR.len {cl : Str → Addr → Prop} {K : PySem.W.Frag} {F H : Hp} : ∀ {vs ms ds}, ArgsR cl K F H vs ms ds → vs.length = ms.length
  | _, _, _, .nil => rfl
  | _, _, _, .cons _ r => congrArg Nat.succ r.len

/-- __iter__ of a class: iter(self.f); __len__: len(self.f) -/
def spIt (K : PySem.W.Frag) (f : Str) (n : Nat) : Sp := fun vs H Q _ => ∃ a C dx fs l zs, (Cls K C ∧ NoAttr K C f) ∧ vs = [.ref a] ∧ H a = some (.ins C dx fs) ∧ fs.lookup f = some (.ref l) ∧ SqL K H l zs ∧ ∀ it, H it = none → n ≤ it → Q (.ref it) (upd H it (ItO l it 0))
/-- as FnOk; the iterator is younger than the call -/
structure ItOk (P : Program) (w : World) (K : PySem.W.Frag) (mg : Str → Option Value) (base : Heap) (k : Nat) (f : Addr) (fd : FuncData) (ps : List Str) (fld : Str) : Prop where
  len : ps.length = 1
  run : ∀ (A : Around) (outer : List PySem.Env) (s : Shared) (H : Hp) (args : Args) (us : List Value) (vs : List V) (Q : VK) (E : XK),
    Room k A → Env0 P w K mg base A outer s H → BindsTo s fd args (ps.zip us) → Vals vs us → spIt K fld s.heap.objs.size vs H Q E → codeAny (model P w) A (.call (.ref f) args) (CR (L2.CX P w) outer P w H s Q E) s
def spLn (K : PySem.W.Frag) (f : Str) : Sp := fun vs H Q _ => ∃ a C dx fs l zs, (Cls K C ∧ NoAttr K C f) ∧ vs = [.ref a] ∧ H a = some (.ins C dx fs) ∧ fs.lookup f = some (.ref l) ∧ SqL K H l zs ∧ Q (.int zs.length) H
/-- what isinstance asks of an own class -/
structure IsC (K : PySem.W.Frag) (C : Addr) : Prop where
  ha : PySem.W.findIn K (.ref C) "__class__" = some (some (.builtin "object.__class__"))
  hn : PySem.W.specialIn K (.builtin "object.__class__") "__get__" = some (some (.builtin "getset_descriptor.__get__"))
  htk : PySem.W.takesIn K (.builtin "object.__class__") = some true
  hm : PySem.W.mroIn K C (.type "object") = some true

/-- what isinstance asks of an exception's class -/
structure XiC (K : PySem.W.Frag) (C : Addr) : Prop where
  cc : (PySem.W.clsIn K C).isSome = true
  ga : PySem.W.findIn K (.ref C) "__getattribute__" = some (some (.builtin "BaseException.__getattribute__"))
  gt : PySem.W.findIn K (.ref C) "__getattr__" = some none
  be : PySem.W.subIn K (.ref C) (.type "BaseException") = some true
  hd : PySem.W.hasDictIn K C = true
  ha : PySem.W.findIn K (.ref C) "__class__" = some (some (.builtin "object.__class__"))
  hn : PySem.W.specialIn K (.builtin "object.__class__") "__get__" = some (some (.builtin "getset_descriptor.__get__"))
  ht : PySem.W.takesIn K (.builtin "object.__class__") = some true
  hm : PySem.W.mroIn K C (.type "object") = some true
/-- an exception's __init__ keeps sp: what it is made from, on plain data -/
def MkX (cl : Str → Addr → Prop) (K : PySem.W.Frag) (exn : List D → Option (List (Str × D))) (C : Addr) (sp : Sp) : Prop :=
  ∀ ds es (c : Ct) F ρ σ vs H a (Q : XK), exn ds = some es → Rl cl K c F ρ σ H → Reps cl K F vs ds → H a = none →
    (∀ F' H' dx gs, Same F F' → Rl cl K c F' ρ σ H' → H' dx = some (.xd gs) → (∀ f e, es.lookup f = some e → ∃ v, gs.lookup f = some v ∧ Rep cl K F' v e) → Q (.ref C) (some dx) H') →
    sp (.ref a :: vs) (upd H a (exo a C none)) (fun v H2 => v = .non ∧ ∃ (d : Addr) (gs : List (Str × V)), H2 a = some (exo a C (some d)) ∧ H2 d = some (exd d gs) ∧ H d = none ∧ Q (.ref C) (some d) (upd (del H2 a) d (.xd gs))) (fun _ _ _ => False)
/-! ### where a body stands -/
def bnames : List Str := ["len", "abs", "int", "list", "tuple", "repr", "sorted", "set", "min", "max", "sum", "range", "enumerate", "zip", "isinstance", "iter"]
structure Gd (X : Cx) (Γ : Tb) (cl : Str → Addr → Prop) (g : Bool) (k : Nat) (W : WX) : Prop where
  nd : X.N.Nodup
  calm : X.calm = true
  tk : Takes X W
  gd : g = true → X.A.guards = some []
  rm : Room (k + 2) X.A
  bn : ∀ x ∈ bnames, X.mg x = none
  fn : ∀ x fn, Γ.f x = some fn → ∃ f fd ps dvs ds, X.mg x = some (.ref f) ∧ PySem.W.keepIn X.K (.ref f) = true ∧ Vals dvs ds ∧ BindK X.K fd ps [] ds ∧
    FnG g X.prog X.w X.K X.mg X.base k f fd ps fun vs H Q E => ∃ us, vs = us ++ dvs ∧ spOf cl X.K fn us H Q E
  fk : ∀ x ks fn, Γ.fk x ks = some fn → ∃ f fd ps dvs ds, X.mg x = some (.ref f) ∧ PySem.W.keepIn X.K (.ref f) = true ∧ Vals dvs ds ∧ BindK X.K fd ps ks ds ∧
    FnG g X.prog X.w X.K X.mg X.base k f fd ps fun vs H Q E => ∃ us, vs = us ++ dvs ∧ spOf cl X.K fn us H Q E
  cls : ∀ c C, cl c C → Cls X.K C
  fld : ∀ c C f, cl c C → Γ.fld c f = true → NoAttr X.K C f
  mt : ∀ c C m fn, cl c C → Γ.m c m = some fn → ∃ f fd ps dvs ds, Meth X.K C m f ∧ Vals dvs ds ∧ BindK X.K fd ps [] ds ∧
    FnG g X.prog X.w X.K X.mg X.base k f fd ps fun vs H Q E => ∃ us, vs = us ++ dvs ∧ spOf cl X.K fn us H Q E
  pr : ∀ c C f fn, cl c C → Γ.p c f = some fn → ∃ p q fd ps, PropOf X.K C f p q ∧ Binds X.K fd ps [] ∧ FnOk X.prog X.w X.K X.mg X.base (L2.CX X.prog X.w) k q fd ps (spOf cl X.K fn)
  mkr : ∀ c fn, Γ.mke c = some fn → ∃ C fI fd ps spI, cl c C ∧ X.mg c = some (.ref C) ∧ Mk X.K C fI ∧ Binds X.K fd ps [] ∧ FnOk X.prog X.w X.K X.mg X.base (L2.CX X.prog X.w) k fI fd ps spI ∧
    ∀ vs H Q E, spOf cl X.K fn vs H Q E → ∀ x dx, H x = none → H dx = none → dx ≠ x → spI (.ref x :: vs) (upd (upd H dx (.own x)) x (.ins C dx [])) (fun v H2 => v = .non ∧ Q (.ref x) H2) E
  iti : ∀ c C f, cl c C → Γ.itf c = some f → NoAttr X.K C f ∧ ∃ fi fd ps, Meth X.K C "__iter__" fi ∧ Binds X.K fd ps [] ∧ ItOk X.prog X.w X.K X.mg X.base k fi fd ps f
  itl : ∀ c C f, cl c C → Γ.itf c = some f → NoAttr X.K C f ∧ ∃ fi fd ps, Meth X.K C "__len__" fi ∧ Binds X.K fd ps [] ∧ FnOk X.prog X.w X.K X.mg X.base (L2.CX X.prog X.w) k fi fd ps (spLn X.K f)
  isk : ∀ c C, cl c C → IsC X.K C
  isn : ∀ c, Γ.isn c = true → ∃ C, cl c C ∧ X.mg c = some (.ref C) ∧ PySem.W.keepIn X.K (.ref C) = true ∧ ∀ c' C', cl c' C' → PySem.W.kitOne X.K (.ref C') (.ref C) = some (decide (c' = c))
  un : ∀ c C C', cl c C → cl c C' → C = C'
  ex : ∀ c fx, Γ.exn c = some fx → X.mg c = some (.ref (He.ga X.K c)) ∧ OexC X.K (He.ga X.K c) ∧ ∃ fI fd ps sp, PySem.W.findIn X.K (.ref (He.ga X.K c)) "__init__" = some (some (.ref fI)) ∧ PySem.W.typeIn X.K (.ref fI) = some (.type "function") ∧
    FnOk X.prog X.w X.K X.mg X.base (L2.CX X.prog X.w) k fI fd ps sp ∧ Binds X.K fd ps [] ∧ MkX cl X.K fx (He.ga X.K c) sp
  xi : ∀ c d b, Γ.isx c d = some b → X.mg d = some (.ref (He.ga X.K d)) ∧ PySem.W.kitOne X.K (.ref (He.ga X.K c)) (.ref (He.ga X.K d)) = some b ∧ PySem.W.exmOne X.K (.ref (He.ga X.K c)) (.ref (He.ga X.K d)) = some b ∧ XiC X.K (He.ga X.K c)
  xf : ∀ c f, Γ.xfl c f = true → XfC X.K (He.ga X.K c) ∧ PySem.W.findIn X.K (.ref (He.ga X.K c)) f = some none
end M
set_option linter.all false
set_option Elab.async false
set_option maxRecDepth 10000
/-! MiniD: expressions, one by one. -/
namespace M
open PySem PySem.Spec PyProof.Rows L2

theorem PE.weak {X : Cx} {e : Expr} {t t' : TE} (h : PE X e t) (w : ∀ σ H Q, t' σ H Q → t σ H Q) : PE X e t' := ⟨fun pins s σ H Q I q => h.run pins s σ H Q I (w σ H Q q)⟩
theorem PT.weak {X : Cx} {e : Expr} {t t' : TT} (h : PT X e t) (w : ∀ σ H Q, t' σ H Q → t σ H Q) : PT X e t' := ⟨fun pins s σ H Q I q => h.run pins s σ H Q I (w σ H Q q)⟩
theorem PW.weak {X : Cx} {e : Expr} {t t' : TT} (h : PW X e t) (w : ∀ σ H Q, t' σ H Q → t σ H Q) : PW X e t' := ⟨fun wh pins s σ H Q I q => h.run wh pins s σ H Q I (w σ H Q q)⟩
theorem PA.weak {X : Cx} {e : List Expr} {t t' : TA} (h : PA X e t) (w : ∀ σ H Q, t' σ H Q → t σ H Q) : PA X e t' := ⟨fun pos pins s σ H Q I q => h.run pos pins s σ H Q I (w σ H Q q)⟩

def ExL (cl : Str → Addr → Prop) (K : PySem.W.Frag) (c : Ct) (F : Hp) (σ : L2.St) (W : WX) (X0 : QX) : Prop :=
  ∀ x ρ' F' H' cc d, X0 x ρ' → Same F F' → Rl cl K c F' ρ' σ H' → ExnR cl K F' H' x cc d → W cc d σ H'
theorem ExL.mono {cl : Str → Addr → Prop} {K : PySem.W.Frag} {c : Ct} {F F1 : Hp} {σ : L2.St} {W : WX} {X0 : QX} (h : ExL cl K c F σ W X0) (m : Same F F1) : ExL cl K c F1 σ W X0 :=
  fun x ρ' F' H' cc d a b => h x ρ' F' H' cc d a (m.trans b)
section
variable (Γ : Tb) (cl : Str → Addr → Prop) (K : PySem.W.Frag) (W : WX)
def tE (e : E) : TE := fun σ H Q => ∃ (c : Ct) (F : Hp) (ρ : En) (Q0 : QE) (X0 : QX), Rl cl K c F ρ σ H ∧ dE Γ e ρ Q0 X0 ∧
  (∀ r ρ' F' v H', Q0 r ρ' → Same F F' → Rl cl K c F' ρ' σ H' → ResR cl K c F' ρ' σ H' v r → Q v H') ∧ ExL cl K c F σ W X0
def tB' (e : B) : TT := fun σ H Q => ∃ (c : Ct) (F : Hp) (ρ : En) (Q0 : Bool → En → Prop) (X0 : QX), Rl cl K c F ρ σ H ∧ dT Γ e ρ Q0 X0 ∧
  (∀ r ρ' F' H', Q0 r ρ' → Same F F' → Rl cl K c F' ρ' σ H' → Q r H') ∧ ExL cl K c F σ W X0
inductive Helds (F : Hp) (σ : L2.St) : List V → List R → Prop
  | nil : Helds F σ [] []
  | cons {v r vs rs} : Held cl K F σ v r → Helds F σ vs rs → Helds F σ (v :: vs) (r :: rs)
def tEs (e : Es) : TA := fun σ H Q => ∃ (c : Ct) (F : Hp) (ρ : En) (Q0 : List R → En → Prop) (X0 : QX), Rl cl K c F ρ σ H ∧ dA Γ e ρ Q0 X0 ∧
  (∀ rs ρ' F' vs H', Q0 rs ρ' → Same F F' → Rl cl K c F' ρ' σ H' → Helds cl K F' σ vs rs → Q vs H') ∧ ExL cl K c F σ W X0
end
section
variable {X : Cx} {Γ : Tb} {cl : Str → Addr → Prop} {W : WX} {c : Ct} {F F' H H' : Hp} {ρ : En} {σ : L2.St} {v u : V} {pos : Pos}
theorem Helds.mono {K : PySem.W.Frag} (m : Same F F') : ∀ {vs rs}, Helds cl K F σ vs rs → Helds cl K F' σ vs rs
  | _, _, .nil => .nil
  | _, _, .cons h r => .cons (h.mono m) (Helds.mono m r)

/-- two expressions in a row: the first is held -/
theorem two {ea eb : E} {X0 : QX} {f : R → R → En → Prop} {Q : V → V → Hp → Prop} (R0 : Rl cl X.K c F ρ σ H) (h : dE Γ ea ρ (fun ra ρ1 => dE Γ eb ρ1 (fun rb ρ2 => f ra rb ρ2) X0) X0) (hx : ExL cl X.K c F σ W X0)
    (q : ∀ ra rb ρ2 F2 v u H2, f ra rb ρ2 → Same F F2 → Rl cl X.K c F2 ρ2 σ H2 → Held cl X.K F2 σ v ra → ResR cl X.K c F2 ρ2 σ H2 u rb → Q v u H2) :
    tE Γ cl X.K W ea σ H fun v H1 => tE Γ cl X.K W eb σ H1 fun u H2 => Q v u H2 := by
  refine ⟨c, F, ρ, _, X0, R0, h, fun ra ρ1 F1 v H1 h1 m1 R1 r1 => ?_, hx⟩
  obtain ⟨F1', m1', R1', hl⟩ := r1.held R1
  exact ⟨c, F1', ρ1, _, X0, R1', h1, fun rb ρ2 F2 u H2 h2 m2 R2 r2 => q ra rb ρ2 F2 v u H2 h2 ((m1.trans m1').trans m2) R2 (hl.mono m2) r2, hx.mono (m1.trans m1')⟩

/-! ### leaves -/
theorem e_var {i : Nat} {x : Str} (hN : X.N[i]? = some x) (hv : Vis X.env.scope x) (hd : (x == ("__debug__" : Str)) = false) (hcd : (x == ("__classdict__" : Str)) = false) : PE X (.Name x pos) (tE Γ cl X.K W (.var i)) := by
  refine PE.weak (pe_var hN hv hd hcd) fun σ H Q ⟨c, F, ρ, Q0, X0, R0, h, q, hx⟩ => ?_
  have h' : (match ρ[i]? with
    | none => False
    | some .top => False
    | some (.sh d) => Q0 (.sh d) ρ
    | some (.bo _) => Q0 (.br i) ρ
    | some (.ow _) => Q0 (.br i) ρ
    | some (.io _) => Q0 (.br i) ρ
    | some (.dc _) => Q0 (.br i) ρ
    | some (.on _) => False
    | some (.al _ _ _) => Q0 (.br i) ρ
    | some (.bd _) => Q0 (.br i) ρ) := h
  cases es : ρ[i]? with
  | none => simp only [es] at h'
  | some s =>
    have sl := R0.sl i s es
    cases s with
    | top => simp only [es] at h'
    | sh d =>
      simp only [es] at h'
      obtain ⟨x, e, r⟩ := sl
      exact ⟨x, e, q _ _ F x H h' (Same.refl F) R0 r⟩
    | bo ds =>
      simp only [es] at h'
      obtain ⟨a, vs, e, _⟩ := sl
      exact ⟨_, e, q _ _ F _ H h' (Same.refl F) R0 e⟩
    | ow ds =>
      simp only [es] at h'
      obtain ⟨a, vs, e, _⟩ := sl
      exact ⟨_, e, q _ _ F _ H h' (Same.refl F) R0 e⟩
    | io ds =>
      simp only [es] at h'
      obtain ⟨a, vs, e, _⟩ := sl
      exact ⟨_, e, q _ _ F _ H h' (Same.refl F) R0 e⟩
    | dc ds =>
      simp only [es] at h'
      obtain ⟨a, vs, e, _⟩ := sl
      exact ⟨_, e, q _ _ F _ H h' (Same.refl F) R0 e⟩
    | on dss => simp only [es] at h'
    | al o j ds =>
      simp only [es] at h'
      obtain ⟨a, as, b, vs, _, _, e, _⟩ := sl
      exact ⟨_, e, q _ _ F _ H h' (Same.refl F) R0 e⟩
    | bd ds =>
      simp only [es] at h'
      obtain ⟨a, vs, e, _⟩ := sl
      exact ⟨_, e, q _ _ F _ H h' (Same.refl F) R0 e⟩
theorem e_int {n : Int} {j} : PE X (.Constant (.int n) j pos) (tE Γ cl X.K W (.int n)) := PE.weak pe_int fun σ H Q ⟨c, F, ρ, Q0, X0, R0, h, q, hx⟩ => q _ _ F _ H h (Same.refl F) R0 (.int n)
theorem e_bl {n : Bool} {j} : PE X (.Constant (.bool n) j pos) (tE Γ cl X.K W (.bl n)) := PE.weak pe_bl fun σ H Q ⟨c, F, ρ, Q0, X0, R0, h, q, hx⟩ => q _ _ F _ H h (Same.refl F) R0 (.bl n)
theorem e_non {j} : PE X (.Constant .none j pos) (tE Γ cl X.K W .non) := PE.weak pe_non fun σ H Q ⟨c, F, ρ, Q0, X0, R0, h, q, hx⟩ => q _ _ F _ H h (Same.refl F) R0 .non
theorem e_str {n : Str} {j} : PE X (.Constant (.str n) j pos) (tE Γ cl X.K W (.str n)) := PE.weak pe_str fun σ H Q ⟨c, F, ρ, Q0, X0, R0, h, q, hx⟩ => q _ _ F _ H h (Same.refl F) R0 (.str n)

/-! ### operators -/
theorem vw_int {K : PySem.W.Frag} {i : Int} (h : Vw cl K F H v (.int i)) : v = .int i := by
  cases (show Rep cl K F v (.int i) from h)
  rfl
theorem vw_bl {K : PySem.W.Frag} {i : Bool} (h : Vw cl K F H v (.bl i)) : v = .bl i := by
  cases (show Rep cl K F v (.bl i) from h)
  rfl
theorem vw_str {K : PySem.W.Frag} {i : Str} (h : Vw cl K F H v (.str i)) : v = .str i := by
  cases (show Rep cl K F v (.str i) from h)
  rfl
theorem vw_non {K : PySem.W.Frag} (h : Vw cl K F H v .non) : v = .non := by
  cases (show Rep cl K F v .non from h)
  rfl
/-- r serves op -/
def BinOk (cl : Str → Addr → Prop) (K : PySem.W.Frag) (op : Op) (r : R2) : Prop := ∀ (c : Ct) (F : Hp) (ρ : En) (σ : L2.St) (H : Hp) (v u : V) (x y : D) (Q0 : R → Prop) (Q : VK), Rl cl K c F ρ σ H → Vw cl K F H v x → Vw cl K F H u y → dBin op x y Q0 →
  (∀ res v' H', Q0 res → Rl cl K c F ρ σ H' → ResR cl K c F ρ σ H' v' res → Q v' H') → r v u H Q
theorem sizeLine_line : sizeLine = line := by decide
theorem bin_add {K : PySem.W.Frag} : BinOk cl K .add (fun x y H Q => (rI0 fun i j => .int (i + j)) x y H Q ∨ rCat x y H Q) := by
  intro c F ρ σ H v u x y Q0 Q R0 hv hu h q
  cases x with
  | int i =>
    cases y with
    | int j => exact .inl ⟨i, j, vw_int hv, vw_int hu, q _ _ H h R0 (.int _)⟩
    | _ => exact h.elim
  | lst a =>
    cases y with
    | lst b =>
      obtain ⟨hl, h⟩ := h
      obtain ⟨p, vs, rfl, hp, rp⟩ := hv
      obtain ⟨p', ws, rfl, hp', rp'⟩ := hu
      refine .inr ⟨p, p', vs, ws, rfl, rfl, hp, hp', by rw [rp.len, rp'.len, sizeLine_line]; exact hl, fun n hn => ?_⟩
      obtain ⟨R1, r1⟩ := R0.fresh hn (rp.app rp')
      exact q _ _ _ h R1 r1
    | _ => exact h.elim
  | _ => cases y <;> exact h.elim
theorem bin_sub {K : PySem.W.Frag} : BinOk cl K .sub (rI0 fun i j => .int (i - j)) := by
  intro c F ρ σ H v u x y Q0 Q R0 hv hu h q
  cases x with
  | int i =>
    cases y with
    | int j => exact ⟨i, j, vw_int hv, vw_int hu, q _ _ H h R0 (.int _)⟩
    | _ => exact h.elim
  | _ => cases y <;> exact h.elim
theorem bin_mul {K : PySem.W.Frag} : BinOk cl K .mul (fun x y H Q => (rI CMulW fun i j => .int (i * j)) x y H Q ∨ rRep x y H Q) := by
  intro c F ρ σ H v u x y Q0 Q R0 hv hu h q
  cases x with
  | int i =>
    cases y with
    | int j => exact .inl ⟨i, j, vw_int hv, vw_int hu, h.1, q _ _ H h.2 R0 (.int _)⟩
    | _ => exact h.elim
  | lst a =>
    cases y with
    | int b =>
      obtain ⟨hb, hl, h⟩ := h
      obtain ⟨p, vs, rfl, hp, rp⟩ := hv
      refine .inr ⟨p, b, vs, rfl, vw_int hu, hp, hb.1, hb.2, by rw [rp.len, sizeLine_line]; exact hl, fun n hn => ?_⟩
      obtain ⟨R1, r1⟩ := R0.fresh hn (rp.cyc b.toNat)
      exact q _ _ _ h R1 r1
    | _ => exact h.elim
  | _ => cases y <;> exact h.elim
theorem bin_fdiv {K : PySem.W.Frag} : BinOk cl K .fdiv (rI CDivW fun i j => .int (i / j)) := by
  intro c F ρ σ H v u x y Q0 Q R0 hv hu h q
  cases x with
  | int i =>
    cases y with
    | int j => exact ⟨i, j, vw_int hv, vw_int hu, h.1, q _ _ H h.2 R0 (.int _)⟩
    | _ => exact h.elim
  | _ => cases y <;> exact h.elim
theorem bin_mod {K : PySem.W.Frag} : BinOk cl K .mod (rI (fun _ j => 0 < j) fun i j => .int (i % j)) := by
  intro c F ρ σ H v u x y Q0 Q R0 hv hu h q
  cases x with
  | int i =>
    cases y with
    | int j => exact ⟨i, j, vw_int hv, vw_int hu, h.1, q _ _ H h.2 R0 (.int _)⟩
    | _ => exact h.elim
  | _ => cases y <;> exact h.elim
theorem bin_pow {K : PySem.W.Frag} : BinOk cl K .pow (rI CPow fun i j => .int (i ^ j.toNat)) := by
  intro c F ρ σ H v u x y Q0 Q R0 hv hu h q
  cases x with
  | int i =>
    cases y with
    | int j => exact ⟨i, j, vw_int hv, vw_int hu, h.1, q _ _ H h.2 R0 (.int _)⟩
    | _ => exact h.elim
  | _ => cases y <;> exact h.elim
theorem e_bin {o : Operator} {r : R2} {op : Op} {a b : Expr} {ea eb : E} (ho : OpR X (binaryOp o) r) (hr : BinOk cl X.K op r) (ha : PE X a (tE Γ cl X.K W ea)) (hb : PE X b (tE Γ cl X.K W eb)) : PE X (.BinOp a o b pos) (tE Γ cl X.K W (.bin op ea eb)) := by
  refine PE.weak (pe_op ho ha hb) fun σ H Q ⟨c, F, ρ, Q0, X0, R0, h, q, hx⟩ => ?_
  refine two R0 h hx fun ra rb ρ2 F2 v u H2 h2 m2 R2 hl r2 => ?_
  obtain ⟨x, e1, h2⟩ := w1_of h2
  obtain ⟨y, e2, h2⟩ := w1_of h2
  exact hr c F2 ρ2 σ H2 v u x y _ Q R2 (hl.vw R2 e1) (r2.vw R2 e2) h2 fun res v' H' z R' r' => q _ _ F2 v' H' z m2 R' r'
theorem e_neg {a : Expr} {ea : E} (ha : PE X a (tE Γ cl X.K W ea)) : PE X (.UnaryOp .USub a pos) (tE Γ cl X.K W (.neg ea)) := by
  refine PE.weak (pe_un un_neg ha) fun σ H Q ⟨c, F, ρ, Q0, X0, R0, h, q, hx⟩ => ?_
  refine ⟨c, F, ρ, _, X0, R0, h, fun ra ρ1 F1 v H1 h1 m1 R1 r1 => ?_, hx⟩
  obtain ⟨i, e, h1⟩ := wI_of h1
  exact ⟨i, vw_int (r1.vw R1 e), q _ _ F1 _ H1 h1 m1 R1 (.int _)⟩

/-! ### comparisons -/
theorem pys_map : ∀ ds : List D, D.py.pys ds = ds.map D.py
  | [] => rfl
  | d :: ds => congrArg (d.py :: ·) (pys_map ds)
theorem py_lst (ds : List D) : (D.lst ds).py = .list (ds.map D.py) := by
  show PyData.list (D.py.pys ds) = _
  rw [pys_map]
theorem py_tup (ds : List D) : (D.tup ds).py = .tuple (ds.map D.py) := by
  show PyData.tuple (D.py.pys ds) = _
  rw [pys_map]
/-- plain data as the library reads it -/
theorem Rep.dp {K : PySem.W.Frag} (m : Same F H) : ∀ (n : Nat) (d : D) (v : V), D.pl n d = true → Rep cl K F v d → Dp K H v d.py
  | _, .non, _, _, .non => .non
  | _, .bl _, _, _, .bl b => .bl b
  | _, .int _, _, _, .int b => .int b
  | _, .str _, _, _, .str s => .str s
  | n, .ins _ _, _, h, _ => by cases n <;> cases h
  | n, .scr _, _, h, _ => by cases n <;> cases h
  | n, .dct _, _, h, _ => by cases n <;> cases h
  | 0, .tup _, _, h, _ => by cases h
  | n + 1, .tup ds, _, h, .tup (vs := vs) e r => by
    rw [py_tup]
    refine .tup (.of (m _ _ e)) ?_
    have h' : ds.all (D.pl n) = true := h
    have go : ∀ (ds : List D) (vs : List V), ds.all (D.pl n) = true → Reps cl K F vs ds → DpAll K H vs (ds.map D.py) := by
      intro ds
      induction ds with
      | nil =>
        intro vs _ r
        cases r
        exact .nil
      | cons d ds ih =>
        intro vs h r
        cases r with
        | cons r1 r2 =>
          rw [List.all_cons, Bool.and_eq_true] at h
          exact .cons (Rep.dp m n d _ h.1 r1) (ih _ h.2 r2)
    exact go ds vs h' r
  | 0, .lst _, _, h, _ => by cases h
  | n + 1, .lst ds, _, h, .lst (vs := vs) e r => by
    rw [py_lst]
    refine .lst (.of (m _ _ e)) ?_
    have h' : ds.all (D.pl n) = true := h
    have go : ∀ (ds : List D) (vs : List V), ds.all (D.pl n) = true → Reps cl K F vs ds → DpAll K H vs (ds.map D.py) := by
      intro ds
      induction ds with
      | nil =>
        intro vs _ r
        cases r
        exact .nil
      | cons d ds ih =>
        intro vs h r
        cases r with
        | cons r1 r2 =>
          rw [List.all_cons, Bool.and_eq_true] at h
          exact .cons (Rep.dp m n d _ h.1 r1) (ih _ h.2 r2)
    exact go ds vs h' r
theorem Reps.dp {K : PySem.W.Frag} (m : Same F H) (n : Nat) : ∀ (ds : List D) (vs : List V), ds.all (D.pl n) = true → Reps cl K F vs ds → DpAll K H vs (ds.map D.py) := by
  intro ds
  induction ds with
  | nil =>
    intro vs _ r
    cases r
    exact .nil
  | cons d ds ih =>
    intro vs h r
    cases r with
    | cons r1 r2 =>
      rw [List.all_cons, Bool.and_eq_true] at h
      exact .cons (Rep.dp m n d _ h.1 r1) (ih _ h.2 r2)
theorem Vw.dp {K : PySem.W.Frag} (m : Same F H) {n : Nat} {d : D} {v : V} (h : D.pl n d = true) (r : Vw cl K F H v d) : Dp K H v d.py := by
  cases d with
  | lst ds =>
    obtain ⟨a, vs, rfl, e, r⟩ := r
    cases n with
    | zero => cases h
    | succ n =>
      rw [py_lst]
      exact .lst (.of e) (Reps.dp m n ds vs h r)
  | dct ds => cases n <;> cases h
  | _ => exact Rep.dp m n _ _ h r
theorem pl_lay : ∀ (n : Nat) (d : D), D.pl n d = true → d.py.canLay0 = true ∧ d.py.depth ≤ n
  | _, .non, _ => ⟨rfl, Nat.zero_le _⟩
  | _, .bl _, _ => ⟨rfl, Nat.zero_le _⟩
  | _, .int _, _ => ⟨rfl, Nat.zero_le _⟩
  | n, .str _, h => ⟨by cases n <;> exact h, Nat.zero_le _⟩
  | n, .ins _ _, h => by cases n <;> cases h
  | n, .scr _, h => by cases n <;> cases h
  | n, .dct _, h => by cases n <;> cases h
  | 0, .tup _, h => by cases h
  | 0, .lst _, h => by cases h
  | n + 1, .tup ds, h => by
    rw [py_tup]
    have h' : ds.all (D.pl n) = true := h
    have go : ∀ ds : List D, ds.all (D.pl n) = true → PyData.canLayAll0 (ds.map D.py) = true ∧ PyData.depthAll (ds.map D.py) ≤ n := by
      intro ds
      induction ds with
      | nil => exact fun _ => ⟨rfl, Nat.zero_le _⟩
      | cons d ds ih =>
        intro h
        rw [List.all_cons, Bool.and_eq_true] at h
        obtain ⟨a, b⟩ := pl_lay n d h.1
        obtain ⟨a', b'⟩ := ih h.2
        rw [List.map_cons]
        exact ⟨by simp only [PyData.canLayAll0, a, a', Bool.and_self], by simp only [PyData.depthAll]; omega⟩
    obtain ⟨a, b⟩ := go ds h'
    exact ⟨by simp only [PyData.canLay0]; exact a, by simp only [PyData.depth]; omega⟩
  | n + 1, .lst ds, h => by
    rw [py_lst]
    have h' : ds.all (D.pl n) = true := h
    have go : ∀ ds : List D, ds.all (D.pl n) = true → PyData.canLayAll0 (ds.map D.py) = true ∧ PyData.depthAll (ds.map D.py) ≤ n := by
      intro ds
      induction ds with
      | nil => exact fun _ => ⟨rfl, Nat.zero_le _⟩
      | cons d ds ih =>
        intro h
        rw [List.all_cons, Bool.and_eq_true] at h
        obtain ⟨a, b⟩ := pl_lay n d h.1
        obtain ⟨a', b'⟩ := ih h.2
        rw [List.map_cons]
        exact ⟨by simp only [PyData.canLayAll0, a, a', Bool.and_self], by simp only [PyData.depthAll]; omega⟩
    obtain ⟨a, b⟩ := go ds h'
    exact ⟨by simp only [PyData.canLay0]; exact a, by simp only [PyData.depth]; omega⟩
theorem pl_shaped {d : D} (h : D.pl 20 d = true) : SeqAt.shaped d.py = true := by
  obtain ⟨a, b⟩ := pl_lay 20 d h
  unfold SeqAt.shaped
  rw [a, Bool.true_and]
  exact decide_eq_true (by omega)
def CmOk (cl : Str → Addr → Prop) (K : PySem.W.Frag) (op : Cm) (r : R2) : Prop := ∀ (F H : Hp) (v u : V) (x y : D) (t : Bool) (Q : VK), Same F H → Vw cl K F H v x → Vw cl K F H u y → dCm op x y = some t → Q (.bl t) H → r v u H Q
theorem cm_I {K : PySem.W.Frag} {op : Cm} {p : Int → Int → Bool} (h : ∀ x y t, dCm op x y = some t → ∃ i j, x = .int i ∧ y = .int j ∧ t = p i j) : CmOk cl K op (rI0 fun i j => .bl (p i j)) := by
  intro F H v u x y t Q m hv hu e q
  obtain ⟨i, j, rfl, rfl, rfl⟩ := h x y t e
  exact ⟨i, j, vw_int hv, vw_int hu, q⟩
theorem cm_lt {K : PySem.W.Frag} : CmOk cl K .lt (rI0 fun i j => .bl (decide (i < j))) := cm_I fun x y t h => by
  cases x <;> cases y <;> first | (cases h; done) | exact ⟨_, _, rfl, rfl, (Option.some.inj h).symm⟩
theorem cm_le {K : PySem.W.Frag} : CmOk cl K .le (rI0 fun i j => .bl (decide (i ≤ j))) := cm_I fun x y t h => by
  cases x <;> cases y <;> first | (cases h; done) | exact ⟨_, _, rfl, rfl, (Option.some.inj h).symm⟩
theorem cm_gt {K : PySem.W.Frag} : CmOk cl K .gt (rI0 fun i j => .bl (decide (j < i))) := cm_I fun x y t h => by
  cases x <;> cases y <;> first | (cases h; done) | exact ⟨_, _, rfl, rfl, (Option.some.inj h).symm⟩
theorem cm_ge {K : PySem.W.Frag} : CmOk cl K .ge (rI0 fun i j => .bl (decide (j ≤ i))) := cm_I fun x y t h => by
  cases x <;> cases y <;> first | (cases h; done) | exact ⟨_, _, rfl, rfl, (Option.some.inj h).symm⟩
/-- == : scalars, or lists and tuples of plain data -/
theorem dEq_cases {x y : D} {t : Bool} (h : dEq x y = some t) :
    (∀ (K : PySem.W.Frag) (F H : Hp) (v u : V), Vw cl K F H v x → Vw cl K F H u y → scal v u = true ∧ decide (v = u) = t) ∨ (D.pl 20 x = true ∧ D.pl 20 y = true ∧ PyData.eqv x.py y.py = t) := by
  cases x <;> cases y <;> first
    | (cases h; done)
    | (refine .inl fun K F H v u hv hu => ?_
       cases h
       first
         | (rw [vw_int hv, vw_int hu]; exact ⟨rfl, by simp⟩)
         | (rw [vw_bl hv, vw_bl hu]; exact ⟨rfl, by simp⟩)
         | (rw [vw_str hv, vw_str hu]; exact ⟨rfl, by simp⟩)
         | (rw [vw_non hv, vw_non hu]; exact ⟨rfl, by simp⟩)
         | (rw [vw_non hv, vw_int hu]; exact ⟨rfl, by simp⟩)
         | (rw [vw_int hv, vw_non hu]; exact ⟨rfl, by simp⟩)
         | (rw [vw_non hv, vw_bl hu]; exact ⟨rfl, by simp⟩)
         | (rw [vw_bl hv, vw_non hu]; exact ⟨rfl, by simp⟩))
    | (refine .inr ?_
       rename_i a b
       have h' : (if (D.pl 20 (.lst a) && D.pl 20 (.lst b)) = true then some (PyData.eqv (D.lst a).py (D.lst b).py) else none) = some t := h
       split at h'
       · rename_i z
         rw [Bool.and_eq_true] at z
         exact ⟨z.1, z.2, Option.some.inj h'⟩
       · cases h')
    | (refine .inr ?_
       rename_i a b
       have h' : (if (D.pl 20 (.tup a) && D.pl 20 (.tup b)) = true then some (PyData.eqv (D.tup a).py (D.tup b).py) else none) = some t := h
       split at h'
       · rename_i z
         rw [Bool.and_eq_true] at z
         exact ⟨z.1, z.2, Option.some.inj h'⟩
       · cases h')
theorem cm_eq {K : PySem.W.Frag} : CmOk cl K .eq (fun x y H Q => rEq x y H Q ∨ rEqD K x y H Q) := by
  intro F H v u x y t Q m hv hu h q
  rcases dEq_cases (cl := cl) (show dEq x y = some t from h) with z | ⟨p1, p2, e⟩
  · obtain ⟨s, e⟩ := z K F H v u hv hu
    exact .inl ⟨s, by rw [e]; exact q⟩
  · exact .inr ⟨_, _, Vw.dp m p1 hv, Vw.dp m p2 hu, pl_shaped p1, pl_shaped p2, by rw [e]; exact q⟩
theorem cm_ne {K : PySem.W.Frag} : CmOk cl K .ne (fun x y H Q => rNe x y H Q ∨ rNeD K x y H Q) := by
  intro F H v u x y t Q m hv hu h q
  obtain ⟨t0, h0, rfl⟩ := Option.map_eq_some_iff.mp (show (dEq x y).map (!·) = some t from h)
  rcases dEq_cases (cl := cl) h0 with z | ⟨p1, p2, e⟩
  · obtain ⟨s, e⟩ := z K F H v u hv hu
    exact .inl ⟨s, by rw [e]; exact q⟩
  · exact .inr ⟨_, _, Vw.dp m p1 hv, Vw.dp m p2 hu, pl_shaped p1, pl_shaped p2, by rw [e]; exact q⟩
theorem vw_isNon {K : PySem.W.Frag} {x : D} (h : Vw cl K F H v x) : decide (v = .non) = x.isNon := by
  cases x with
  | lst ds =>
    obtain ⟨a, vs, rfl, _⟩ := h
    simp [D.isNon]
  | dct ds =>
    obtain ⟨a, vs, rfl, _⟩ := h
    simp [D.isNon]
  | _ =>
    cases h
    all_goals simp [D.isNon]
theorem cm_is {K : PySem.W.Frag} : CmOk cl K .is (fun x y H Q => y = .non ∧ Q (.bl (decide (x = .non))) H) := by
  intro F H v u x y t Q m hv hu h q
  cases y with
  | non =>
    refine ⟨vw_non hu, ?_⟩
    rw [vw_isNon hv]
    cases x <;> (cases h; exact q)
  | _ => cases x <;> (cases h; done)
theorem cm_isnot {K : PySem.W.Frag} : CmOk cl K .isnot (fun x y H Q => y = .non ∧ Q (.bl (!decide (x = .non))) H) := by
  intro F H v u x y t Q m hv hu h q
  cases y with
  | non =>
    refine ⟨vw_non hu, ?_⟩
    rw [vw_isNon hv]
    cases x <;> (cases h; exact q)
  | _ => cases x <;> (cases h; done)
theorem intsOf_map : ∀ {ds : List D} {ns : List Int}, intsOf ds = some ns → ds = ns.map D.int
  | [], ns, h => by
    cases h
    rfl
  | d :: ds, ns, h => by
    cases d with
    | int i =>
      obtain ⟨ms, e, rfl⟩ := Option.map_eq_some_iff.mp (show (intsOf ds).map (i :: ·) = some ns from h)
      rw [intsOf_map e]
      rfl
    | _ => cases h
theorem reps_ints {K : PySem.W.Frag} : ∀ {ns : List Int} {vs : List V}, Reps cl K F vs (ns.map D.int) → vs = ns.map V.int
  | [], _, .nil => rfl
  | n :: ns, _, .cons (.int _) r => congrArg (V.int n :: ·) (reps_ints r)
theorem inV_ints (i : Int) (ns : List Int) : inV (.int i) (ns.map V.int) = decide (i ∈ ns) := by
  unfold inV
  induction ns with
  | nil => rfl
  | cons n ns ih =>
    rw [List.map_cons, List.any_cons, ih]
    have e : eqV (.int n) (.int i) = decide (n = i) := by
      show (n == i) = decide (n = i)
      exact Bool.beq_eq_decide_eq n i
    rw [e]
    by_cases z : i = n
    · subst z
      simp
    · have z' : ¬ n = i := fun q => z q.symm
      simp [z, z']
theorem ints_flat (ns : List Int) : (ns.map V.int).all flatV = true := by
  rw [List.all_map, List.all_eq_true]
  intro _ _
  rfl
theorem cm_in {K : PySem.W.Frag} : CmOk cl K .isin (fun x y H Q => rInD K x y H Q ∨ rIn K false x y H Q) := by
  intro F H v u x y t Q m hv hu h q
  cases y with
  | lst ys =>
    have h' : dIn x ys = some t := by
      cases x <;> exact h
    unfold dIn at h'
    split at h'
    · rename_i z
      rw [Bool.and_eq_true] at z
      cases h'
      have pl : D.pl 21 (.lst ys) = true := z.2
      have pl2 : SeqAt.shaped (D.lst ys).py = true := by
        obtain ⟨a, b⟩ := pl_lay 21 (.lst ys) pl
        unfold SeqAt.shaped
        rw [a, Bool.true_and]
        exact decide_eq_true (by omega)
      have dp : Dp K H u (D.lst ys).py := Vw.dp m pl hu
      rw [py_lst] at dp pl2
      refine .inl ⟨_, _, Vw.dp m z.1 hv, dp, pl_shaped z.1, pl2, ?_⟩
      rw [List.any_map]
      exact q
    · cases h'
  | tup ys =>
    cases x with
    | int i =>
      obtain ⟨ns, e, rfl⟩ := Option.map_eq_some_iff.mp (show (intsOf ys).map (fun ns => decide (i ∈ ns)) = some t from h)
      rw [intsOf_map e] at hu
      cases hu with
      | tup hp r =>
        refine .inr ⟨_, _, rfl, .inr (.of (m _ _ hp)), by rw [vw_int hv]; rfl, by rw [reps_ints r]; exact ints_flat ns, ?_⟩
        rw [vw_int hv, reps_ints r, inV_ints]
        exact q
    | _ => cases h
  | _ => cases x <;> cases h
theorem cm_notin {K : PySem.W.Frag} : CmOk cl K .notin (fun x y H Q => rNotInD K x y H Q ∨ rIn K true x y H Q) := by
  intro F H v u x y t Q m hv hu h q
  cases y with
  | lst ys =>
    have h' : (dIn x ys).map (!·) = some t := by
      cases x <;> exact h
    obtain ⟨t0, h0, rfl⟩ := Option.map_eq_some_iff.mp h'
    unfold dIn at h0
    split at h0
    · rename_i z
      rw [Bool.and_eq_true] at z
      cases h0
      have pl : D.pl 21 (.lst ys) = true := z.2
      have pl2 : SeqAt.shaped (D.lst ys).py = true := by
        obtain ⟨a, b⟩ := pl_lay 21 (.lst ys) pl
        unfold SeqAt.shaped
        rw [a, Bool.true_and]
        exact decide_eq_true (by omega)
      have dp : Dp K H u (D.lst ys).py := Vw.dp m pl hu
      rw [py_lst] at dp pl2
      refine .inl ⟨_, _, Vw.dp m z.1 hv, dp, pl_shaped z.1, pl2, ?_⟩
      rw [List.any_map]
      exact q
    · cases h0
  | tup ys =>
    cases x with
    | int i =>
      obtain ⟨ns, e, rfl⟩ := Option.map_eq_some_iff.mp (show (intsOf ys).map (fun ns => !decide (i ∈ ns)) = some t from h)
      rw [intsOf_map e] at hu
      cases hu with
      | tup hp r =>
        refine .inr ⟨_, _, rfl, .inr (.of (m _ _ hp)), by rw [vw_int hv]; rfl, by rw [reps_ints r]; exact ints_flat ns, ?_⟩
        rw [vw_int hv, reps_ints r, inV_ints]
        exact q
    | _ => cases h
  | _ => cases x <;> cases h
/-- the rules of the comparisons -/
def cmK : Cm → CmpOp
  | .lt => .Lt | .le => .LtE | .gt => .Gt | .ge => .GtE | .eq => .Eq | .ne => .NotEq | .is => .Is | .isnot => .IsNot | .isin => .In | .notin => .NotIn
theorem cm_rule (hu : X.A.units + 65 < cLine) (op : Cm) : ∃ r, OpR X (compareOp (cmK op)) r ∧ CmOk cl X.K op r := by
  cases op with
  | lt => exact ⟨_, op_lt, cm_lt⟩
  | le => exact ⟨_, op_le, cm_le⟩
  | gt => exact ⟨_, op_gt, cm_gt⟩
  | ge => exact ⟨_, op_ge, cm_ge⟩
  | eq => exact ⟨_, OpR.or op_eq (op_eqD (by omega)), cm_eq⟩
  | ne => exact ⟨_, OpR.or op_ne (op_neD (by omega)), cm_ne⟩
  | is => exact ⟨_, op_isN, cm_is⟩
  | isnot => exact ⟨_, op_notN, cm_isnot⟩
  | isin => exact ⟨_, OpR.or (op_inD hu) op_in_seq, cm_in⟩
  | notin => exact ⟨_, OpR.or (op_notInD hu) op_notIn_seq, cm_notin⟩
def opK : Op → Operator
  | .add => .Add | .sub => .Sub | .mul => .Mult | .fdiv => .FloorDiv | .mod => .Mod | .pow => .Pow
theorem bin_rule (op : Op) : ∃ r, OpR X (binaryOp (opK op)) r ∧ BinOk cl X.K op r := by
  cases op with
  | add => exact ⟨_, OpR.or op_add op_cat, bin_add⟩
  | sub => exact ⟨_, op_sub, bin_sub⟩
  | mul => exact ⟨_, OpR.or op_mulW op_rep, bin_mul⟩
  | fdiv => exact ⟨_, op_fdivW, bin_fdiv⟩
  | mod => exact ⟨_, op_mod, bin_mod⟩
  | pow => exact ⟨_, op_pow, bin_pow⟩
end
end M
set_option linter.all false
set_option Elab.async false
set_option maxRecDepth 10000
/-! MiniE: more expressions; tests; arguments. -/
namespace M
open PySem PySem.Spec PyProof.Rows L2
section
variable {X : Cx} {Γ : Tb} {cl : Str → Addr → Prop} {W : WX} {c : Ct} {F F' H H' : Hp} {ρ : En} {σ : L2.St} {v u : V} {pos : Pos}
theorem twoH {ea eb : E} {X0 : QX} {f : R → R → En → Prop} {Q : V → V → Hp → Prop} (R0 : Rl cl X.K c F ρ σ H) (h : dE Γ ea ρ (fun ra ρ1 => dE Γ eb ρ1 (fun rb ρ2 => f ra rb ρ2) X0) X0) (hx : ExL cl X.K c F σ W X0)
    (q : ∀ ra rb ρ2 F2 v u H2, f ra rb ρ2 → Same F F2 → Rl cl X.K c F2 ρ2 σ H2 → Held cl X.K F2 σ v ra → Held cl X.K F2 σ u rb → Q v u H2) :
    tE Γ cl X.K W ea σ H fun v H1 => tE Γ cl X.K W eb σ H1 fun u H2 => Q v u H2 :=
  two R0 h hx fun ra rb ρ2 F2 v u H2 z m R2 hl r2 => by
    obtain ⟨F3, m3, R3, h3⟩ := r2.held R2
    exact q ra rb ρ2 F3 v u H2 z (m.trans m3) R3 (hl.mono m3) h3
/-- one more, with what is held -/
theorem oneE {e : E} {X0 : QX} {f : R → En → Prop} {Q : V → Hp → Prop} (R0 : Rl cl X.K c F ρ σ H) (h : dE Γ e ρ (fun r ρ1 => f r ρ1) X0) (hx : ExL cl X.K c F σ W X0)
    (q : ∀ r ρ1 F1 v H1, f r ρ1 → Same F F1 → Rl cl X.K c F1 ρ1 σ H1 → ResR cl X.K c F1 ρ1 σ H1 v r → Q v H1) : tE Γ cl X.K W e σ H Q :=
  ⟨c, F, ρ, _, X0, R0, h, q, hx⟩
theorem oneB {e : B} {X0 : QX} {f : Bool → En → Prop} {Q : Bool → Hp → Prop} (R0 : Rl cl X.K c F ρ σ H) (h : dT Γ e ρ (fun r ρ1 => f r ρ1) X0) (hx : ExL cl X.K c F σ W X0)
    (q : ∀ r ρ1 F1 H1, f r ρ1 → Same F F1 → Rl cl X.K c F1 ρ1 σ H1 → Q r H1) : tB' Γ cl X.K W e σ H Q :=
  ⟨c, F, ρ, _, X0, R0, h, q, hx⟩
theorem oneA {e : Es} {X0 : QX} {f : List R → En → Prop} {Q : List V → Hp → Prop} (R0 : Rl cl X.K c F ρ σ H) (h : dA Γ e ρ (fun r ρ1 => f r ρ1) X0) (hx : ExL cl X.K c F σ W X0)
    (q : ∀ r ρ1 F1 v H1, f r ρ1 → Same F F1 → Rl cl X.K c F1 ρ1 σ H1 → Helds cl X.K F1 σ v r → Q v H1) : tEs Γ cl X.K W e σ H Q :=
  ⟨c, F, ρ, _, X0, R0, h, q, hx⟩

theorem e_cmp {op : Cm} {a b : Expr} {ea eb : E} (hu : X.A.units + 65 < cLine) (ha : PE X a (tE Γ cl X.K W ea)) (hb : PE X b (tE Γ cl X.K W eb)) (hm : behindInMarks (cmK op) b = false) : PE X (.Compare a [cmK op] [b] pos) (tE Γ cl X.K W (.cmp op ea eb)) := by
  obtain ⟨r, ho, hr⟩ := cm_rule (cl := cl) (X := X) hu op
  refine PE.weak (pe_cmpR ho ha hb hm) fun σ H Q ⟨c, F, ρ, Q0, X0, R0, h, q, hx⟩ => ?_
  refine two R0 h hx fun ra rb ρ2 F2 v u H2 h2 m2 R2 hl r2 => ?_
  obtain ⟨x, e1, h2⟩ := w1_of h2
  obtain ⟨y, e2, h2⟩ := w1_of h2
  obtain ⟨t, e3, h2⟩ := w1_of h2
  exact hr F2 H2 v u x y t Q R2.fh (hl.vw R2 e1) (r2.vw R2 e2) e3 (q _ _ F2 _ H2 h2 m2 R2 (.bl t))
theorem b_cmp {op : Cm} {a b : Expr} {ea eb : E} (hu : X.A.units + 65 < cLine) (ha : PE X a (tE Γ cl X.K W ea)) (hb : PE X b (tE Γ cl X.K W eb)) (hm : behindInMarks (cmK op) b = false) : PT X (.Compare a [cmK op] [b] pos) (tB' Γ cl X.K W (.cmp op ea eb)) := by
  obtain ⟨r, ho, hr⟩ := cm_rule (cl := cl) (X := X) hu op
  refine PT.weak (pt_cmpR ho ha hb hm) fun σ H Q ⟨c, F, ρ, Q0, X0, R0, h, q, hx⟩ => ?_
  refine two R0 h hx fun ra rb ρ2 F2 v u H2 h2 m2 R2 hl r2 => ?_
  obtain ⟨x, e1, h2⟩ := w1_of h2
  obtain ⟨y, e2, h2⟩ := w1_of h2
  obtain ⟨t, e3, h2⟩ := w1_of h2
  exact hr F2 H2 v u x y t _ R2.fh (hl.vw R2 e1) (r2.vw R2 e2) e3 ⟨t, rfl, q _ _ F2 H2 h2 m2 R2⟩
theorem chn_core {Q : VK} {p s : Cm} {r r' : R2} {a b d : Expr} {ea eb ec : E} {X0 : QX} {Q0 : Bool → En → Prop} (hr : CmOk cl X.K p r) (hr' : CmOk cl X.K s r') (R0 : Rl cl X.K c F ρ σ H)
    (h : dE Γ ea ρ (fun ra ρ1 => dE Γ eb ρ1 (fun rb ρ2 => w1 (val ρ2 ra) fun x => w1 (val ρ2 rb) fun y => w1 (dCm p x y) fun t =>
      if t = true then dE Γ ec ρ2 (fun rc ρ3 => w1 (val ρ3 rb) fun y => w1 (val ρ3 rc) fun z => w1 (dCm s y z) fun t' => Q0 t' ρ3) X0 else Q0 false ρ2) X0) X0) (hx : ExL cl X.K c F σ W X0)
    (q : ∀ t ρ' F' H', Q0 t ρ' → Same F F' → Rl cl X.K c F' ρ' σ H' → Q (.bl t) H') : tChain r r' (tE Γ cl X.K W ea) (tE Γ cl X.K W eb) (tE Γ cl X.K W ec) σ H Q := by
  refine twoH R0 h hx fun ra rb ρ2 F2 v u H2 h2 m2 R2 hl hl2 => ?_
  obtain ⟨x, e1, h2⟩ := w1_of h2
  obtain ⟨y, e2, h2⟩ := w1_of h2
  obtain ⟨t, e3, h2⟩ := w1_of h2
  refine hr F2 H2 v u x y t _ R2.fh (hl.vw R2 e1) (hl2.vw R2 e2) e3 ⟨t, rfl, ?_⟩
  cases t with
  | false =>
    rw [if_neg Bool.false_ne_true] at h2 ⊢
    exact q _ _ F2 H2 h2 m2 R2
  | true =>
    rw [if_pos rfl] at h2 ⊢
    refine oneE R2 h2 (hx.mono m2) fun rc ρ3 F3 w H3 h3 m3 R3 r3 => ?_
    obtain ⟨y', e4, h3⟩ := w1_of h3
    obtain ⟨z, e5, h3⟩ := w1_of h3
    obtain ⟨t', e6, h3⟩ := w1_of h3
    exact hr' F3 H3 u w y' z t' _ R3.fh ((hl2.mono m3).vw R3 e4) (r3.vw R3 e5) e6 (q _ _ F3 H3 h3 (m2.trans m3) R3)
theorem e_chn {p s : Cm} {a b d : Expr} {ea eb ec : E} (hu : X.A.units + 65 < cLine) (ha : PE X a (tE Γ cl X.K W ea)) (hb : PE X b (tE Γ cl X.K W eb)) (hd : PE X d (tE Γ cl X.K W ec)) (hm : lastMarks [cmK p, cmK s] [b, d] = false) :
    PE X (.Compare a [cmK p, cmK s] [b, d] pos) (tE Γ cl X.K W (.chn p s ea eb ec)) := by
  obtain ⟨r, ho, hr⟩ := cm_rule (cl := cl) (X := X) hu p
  obtain ⟨r', ho', hr'⟩ := cm_rule (cl := cl) (X := X) hu s
  refine PE.weak (pe_chain ho ho' ha hb hd hm) fun σ H Q ⟨c, F, ρ, Q0, X0, R0, h, q, hx⟩ => ?_
  exact chn_core (a := a) (b := b) (d := d) (Q0 := fun t ρ' => Q0 (.sh (.bl t)) ρ') hr hr' R0 h hx fun t ρ' F' H' z m R' => q _ _ F' _ H' z m R' (.bl t)
theorem b_chn {p s : Cm} {a b d : Expr} {ea eb ec : E} (hu : X.A.units + 65 < cLine) (ha : PE X a (tE Γ cl X.K W ea)) (hb : PE X b (tE Γ cl X.K W eb)) (hd : PE X d (tE Γ cl X.K W ec)) (hm : lastMarks [cmK p, cmK s] [b, d] = false) :
    PT X (.Compare a [cmK p, cmK s] [b, d] pos) (tB' Γ cl X.K W (.chn p s ea eb ec)) := by
  obtain ⟨r, ho, hr⟩ := cm_rule (cl := cl) (X := X) hu p
  obtain ⟨r', ho', hr'⟩ := cm_rule (cl := cl) (X := X) hu s
  refine PT.weak (pt_chain ho ho' ha hb hd hm) fun σ H Q ⟨c, F, ρ, Q0, X0, R0, h, q, hx⟩ => ?_
  exact chn_core (a := a) (b := b) (d := d) (Q0 := Q0) hr hr' R0 h hx fun t ρ' F' H' z m R' => ⟨t, rfl, q _ _ F' H' z m R'⟩

/-! ### tests -/
theorem b_not {a : Expr} {ea : B} (ha : PT X a (tB' Γ cl X.K W ea)) : PT X (.UnaryOp .Not a pos) (tB' Γ cl X.K W (.not ea)) :=
  PT.weak (pt_not ha) fun σ H Q ⟨c, F, ρ, Q0, X0, R0, h, q, hx⟩ => oneB R0 h hx fun t ρ' F' H' z m R' => q _ _ F' H' z m R'
/-- the truth of data -/
theorem vw_tru {K : PySem.W.Frag} {d : D} {t : Bool} (m : Same F H) (h : Vw cl K F H v d) (e : dTru d = some t) : TruV K v H t := by
  cases d with
  | non =>
    rw [vw_non h]
    cases e
    rfl
  | bl b =>
    rw [vw_bl h]
    cases e
    rfl
  | int i =>
    rw [vw_int h]
    cases e
    rfl
  | lst ds =>
    obtain ⟨a, vs, rfl, hh, r⟩ := h
    cases e
    refine .inl ⟨vs, .of hh, ?_⟩
    cases r <;> rfl
  | tup ds =>
    cases (show Rep cl K F v (.tup ds) from h) with
    | tup hh r =>
      cases e
      refine .inr (.inl ⟨_, .of (m _ _ hh), ?_⟩)
      cases r <;> rfl
  | _ => cases e
theorem b_ex {a : Expr} {ea : E} (ha : PE X a (tE Γ cl X.K W ea)) (he : ∀ whole, isTrue a X.env whole = (do let v ← whole; standAt a.pos; holding [v] (truthy v))) : PT X a (tB' Γ cl X.K W (.ex ea)) := by
  refine PT.weak (pt_truth ha he) fun σ H Q ⟨c, F, ρ, Q0, X0, R0, h, q, hx⟩ => ?_
  refine oneE R0 h hx fun r ρ' F' v H' z m R' rr => ?_
  obtain ⟨d, e, z⟩ := w1_of z
  obtain ⟨t, e2, z⟩ := w1_of z
  exact ⟨t, vw_tru R'.fh (rr.vw R' e) e2, q _ _ F' H' z m R'⟩
theorem e_not {a : Expr} {ea : E} (ha : PE X a (tE Γ cl X.K W ea)) : PE X (.UnaryOp .Not a pos) (tE Γ cl X.K W (.not ea)) := by
  refine PE.weak (pe_notT ha) fun σ H Q ⟨c, F, ρ, Q0, X0, R0, h, q, hx⟩ => ?_
  refine oneE R0 h hx fun r ρ' F' v H' z m R' rr => ?_
  obtain ⟨d, e, z⟩ := w1_of z
  obtain ⟨t, e2, z⟩ := w1_of z
  exact ⟨t, vw_tru R'.fh (rr.vw R' e) e2, q _ _ F' _ H' z m R' (.bl !t)⟩
theorem e_ife {a b d : Expr} {ea eb : E} {ec : B} (hd : PT X d (tB' Γ cl X.K W ec)) (ha : PE X a (tE Γ cl X.K W ea)) (hb : PE X b (tE Γ cl X.K W eb)) : PE X (.IfExp d a b pos) (tE Γ cl X.K W (.ife ec ea eb)) := by
  refine PE.weak (pe_ifExp hd ha hb) fun σ H Q ⟨c, F, ρ, Q0, X0, R0, h, q, hx⟩ => ?_
  refine oneB R0 h hx fun t ρ1 F1 H1 z m R1 => ?_
  cases t with
  | true =>
    rw [if_pos rfl] at z ⊢
    exact ⟨c, F1, ρ1, Q0, X0, R1, z, fun r ρ' F' v H' y m' R' rr => q r ρ' F' v H' y (m.trans m') R' rr, hx.mono m⟩
  | false =>
    rw [if_neg Bool.false_ne_true] at z ⊢
    exact ⟨c, F1, ρ1, Q0, X0, R1, z, fun r ρ' F' v H' y m' R' rr => q r ρ' F' v H' y (m.trans m') R' rr, hx.mono m⟩

/-! ### argument lists, displays -/
theorem a_nil : PA X [] (tEs Γ cl X.K W .nil) := PA.weak pa_nil fun σ H Q ⟨c, F, ρ, Q0, X0, R0, h, q, hx⟩ => q _ _ F _ H h (Same.refl F) R0 .nil
theorem a_cons {e : Expr} {es : List Expr} {ee : E} {er : Es} (he : PE X e (tE Γ cl X.K W ee)) (hr : PA X es (tEs Γ cl X.K W er)) (hs : starEach (e :: es) X.env = (false, eval e X.env) :: starEach es X.env) : PA X (e :: es) (tEs Γ cl X.K W (.cons ee er)) := by
  refine PA.weak (pa_cons he hr hs) fun σ H Q ⟨c, F, ρ, Q0, X0, R0, h, q, hx⟩ => ?_
  refine oneE R0 h hx fun r ρ1 F1 v H1 z m R1 rr => ?_
  obtain ⟨F2, m2, R2, hl⟩ := rr.held R1
  refine oneA R2 z (hx.mono (m.trans m2)) fun rs ρ3 F3 vs H3 z3 m3 R3 hs3 => ?_
  exact q _ _ F3 _ H3 z3 ((m.trans m2).trans m3) R3 (.cons (hl.mono m3) hs3)
theorem Helds.keep {K : PySem.W.Frag} : ∀ {rs : List R} {vs : List V} {ds : List D} {ρ ρ' : En} {F : Hp}, Rl cl K c F ρ σ H → Helds cl K F σ vs rs → keepAll rs ρ = some (ds, ρ') → ∃ F', Same F F' ∧ Rl cl K c F' ρ' σ H ∧ Reps cl K F' vs ds
  | [], _, ds, ρ, ρ', F, R0, .nil, h => by
    cases h
    exact ⟨F, Same.refl F, R0, .nil⟩
  | r :: rs, v :: vs, ds, ρ, ρ', F, R0, .cons hl hs, h => by
    unfold keepAll at h
    split at h
    · rename_i d ρ1 e1
      split at h
      · rename_i ds' ρ2 e2
        cases h
        obtain ⟨F1, m1, R1, r1⟩ := hl.keep R0 e1
        obtain ⟨F2, m2, R2, r2⟩ := Helds.keep R1 (hs.mono m1) e2
        exact ⟨F2, m1.trans m2, R2, .cons (r1.mono m2) r2⟩
      · cases h
    · cases h
theorem e_tup {es : List Expr} {ee : Es} {k : Nat} (h : PA X es (tEs Γ cl X.K W ee)) : PE X (.Tuple es k pos) (tE Γ cl X.K W (.tup ee)) := by
  refine PE.weak (pe_tup h) fun σ H Q ⟨c, F, ρ, Q0, X0, R0, h, q, hx⟩ => ?_
  refine oneA R0 h hx fun rs ρ1 F1 vs H1 z m R1 hs => ?_
  obtain ⟨ds, ρ2, e, hl, z⟩ := w2_of z
  obtain ⟨F2, m2, R2, r2⟩ := hs.keep R1 e
  refine ⟨by rw [r2.len, sizeLine_line]; exact hl, fun p hp => ?_⟩
  obtain ⟨m3, R3, r3⟩ := R2.tuple hp r2
  exact q _ _ _ _ _ z ((m.trans m2).trans m3) R3 r3
theorem e_lst {es : List Expr} {ee : Es} (h : PA X es (tEs Γ cl X.K W ee)) : PE X (.List es pos) (tE Γ cl X.K W (.lst ee)) := by
  refine PE.weak (pe_lst h) fun σ H Q ⟨c, F, ρ, Q0, X0, R0, h, q, hx⟩ => ?_
  refine oneA R0 h hx fun rs ρ1 F1 vs H1 z m R1 hs => ?_
  obtain ⟨ds, ρ2, e, hl, z⟩ := w2_of z
  obtain ⟨F2, m2, R2, r2⟩ := hs.keep R1 e
  refine ⟨by rw [r2.len, sizeLine_line]; exact hl, fun p hp => ?_⟩
  obtain ⟨R3, r3⟩ := R2.fresh hp r2
  exact q _ _ _ _ _ z (m.trans m2) R3 r3

/-! ### items, slices -/
theorem Reps.at {K : PySem.W.Frag} {vs : List V} {ds : List D} {i : Int} {d : D} (r : Reps cl K F vs ds) (h : atI ds i = some d) : ∃ v, atI vs i = some v ∧ Rep cl K F v d := by
  unfold atI at h ⊢
  rw [r.len]
  cases e : ixN ds.length i with
  | none =>
    rw [e] at h
    cases h
  | some j =>
    rw [e] at h
    exact r.get h
theorem e_ix {a b : Expr} {ea eb : E} (ha : PE X a (tE Γ cl X.K W ea)) (hb : PE X b (tE Γ cl X.K W eb)) (hs : PlainIx b) : PE X (.Subscript a b pos) (tE Γ cl X.K W (.ix ea eb)) := by
  have hr : IxR X (fun x y H Q => rIxL X.K x y H Q ∨ rIxT X.K x y H Q) := fun value slice pins s σ H x y v u Q I rx ry h hs => by
    rcases h with h | h
    · exact ix_list value slice pins s σ H x y v u Q I rx ry h hs
    · exact ix_tup value slice pins s σ H x y v u Q I rx ry h hs
  refine PE.weak (pe_ix hr ha hb hs) fun σ H Q ⟨c, F, ρ, Q0, X0, R0, h, q, hx⟩ => ?_
  refine two R0 h hx fun ra rb ρ2 F2 v u H2 h2 m2 R2 hl r2 => ?_
  obtain ⟨x, e1, h3⟩ := w1_of h2
  obtain ⟨y, e2, h4⟩ := w1_of h3
  obtain ⟨z, e3, h5⟩ := w1_of h4
  clear h2 h3 h4
  have hv := hl.vw R2 e1
  have hu := r2.vw R2 e2
  cases x with
  | lst ds =>
    cases y with
    | int i =>
      obtain ⟨p, vs, rfl, hp, r⟩ := hv
      obtain ⟨w, ew, rw'⟩ := r.at (show atI ds i = some z from e3)
      exact .inl ⟨p, vs, i, w, rfl, vw_int hu, .of hp, ew, q _ _ F2 _ H2 h5 m2 R2 rw'⟩
    | _ => cases e3
  | tup ds =>
    cases y with
    | int i =>
      cases (show Rep cl X.K F2 v (.tup ds) from hv) with
      | tup hp r =>
        obtain ⟨w, ew, rw'⟩ := r.at (show atI ds i = some z from e3)
        exact .inr ⟨_, _, i, w, rfl, vw_int hu, .of (R2.fh _ _ hp), ew, q _ _ F2 _ H2 h5 m2 R2 rw'⟩
    | _ => cases e3
  | scr ns =>
    cases y with
    | int i =>
      cases (show Rep cl X.K F2 v (.scr ns) from hv) with
      | scr hp =>
        obtain ⟨n, en, rfl⟩ := Option.map_eq_some_iff.mp (show (atI ns i).map D.int = some z from e3)
        have ev : atI (ns.map V.int) i = some (.int n) := by
          unfold atI at en ⊢
          rw [List.length_map]
          cases e : ixN ns.length i with
          | none =>
            rw [e] at en
            cases en
          | some j =>
            rw [e] at en
            have en' : ns[j]? = some n := en
            show (ns.map V.int)[j]? = some (.int n)
            rw [List.getElem?_map, en'] <;> rfl
        exact .inl ⟨_, _, i, .int n, rfl, vw_int hu, R2.fh.seq hp, ev, q _ _ F2 _ H2 h5 m2 R2 (.int n)⟩
    | _ => cases e3
  | _ => cases y <;> cases e3
theorem cut_reps {K : PySem.W.Frag} {vs : List V} {ds : List D} (r : Reps cl K F vs ds) (lo hi : Option Int) : Reps cl K F (cutV vs lo hi) (cutD ds lo hi) := by
  unfold cutV cutD
  rw [r.len]
  exact (r.drop _).take _
/-- an optional part -/
def tO' (Γ : Tb) (cl : Str → Addr → Prop) (K : PySem.W.Frag) (W : WX) (e : Es) : TO := fun σ H Q => ∃ (c : Ct) (F : Hp) (ρ : En) (Q0 : Option Int → En → Prop) (X0 : QX), Rl cl K c F ρ σ H ∧ dO Γ e ρ Q0 X0 ∧
  (∀ r ρ' F' H', Q0 r ρ' → Same F F' → Rl cl K c F' ρ' σ H' → Q r H') ∧ ExL cl K c F σ W X0
theorem PO.weak {X : Cx} {e : Option Expr} {t t' : TO} (h : PO X e t) (w : ∀ σ H Q, t' σ H Q → t σ H Q) : PO X e t' := ⟨fun pins s σ H Q I q => h.run pins s σ H Q I (w σ H Q q)⟩
theorem o_none : PO X none (tO' Γ cl X.K W .nil) := PO.weak po_none fun σ H Q ⟨c, F, ρ, Q0, X0, R0, h, q, hx⟩ => q _ _ F H h (Same.refl F) R0
theorem o_some {e : Expr} {ee : E} {r : Es} (he : PE X e (tE Γ cl X.K W ee)) : PO X (some e) (tO' Γ cl X.K W (.cons ee r)) := by
  refine PO.weak (po_some he) fun σ H Q ⟨c, F, ρ, Q0, X0, R0, h, q, hx⟩ => ?_
  refine oneE R0 h hx fun r ρ' F' v H' z m R' rr => ?_
  obtain ⟨i, e, z⟩ := wI_of z
  exact ⟨i, vw_int (rr.vw R' e), q _ _ F' H' z m R'⟩
theorem e_sl {a : Expr} {lo hi : Option Expr} {ea : E} {l h : Es} {p2 : Pos} (ha : PE X a (tE Γ cl X.K W ea)) (hl : PO X lo (tO' Γ cl X.K W l)) (hh : PO X hi (tO' Γ cl X.K W h)) : PE X (.Subscript a (.Slice lo hi none p2) pos) (tE Γ cl X.K W (.sl ea l h)) := by
  refine PE.weak (pe_slice sl_list ha hl hh) fun σ H Q ⟨c, F, ρ, Q0, X0, R0, h, q, hx⟩ => ?_
  refine oneE R0 h hx fun ra ρ1 F1 v H1 z m R1 r1 => ?_
  obtain ⟨F2, m2, R2, hl2⟩ := r1.held R1
  refine ⟨c, F2, ρ1, _, X0, R2, z, fun l ρ3 F3 H3 z3 m3 R3 => ?_, hx.mono (m.trans m2)⟩
  refine ⟨c, F3, ρ3, _, X0, R3, z3, fun h ρ4 F4 H4 z4 m4 R4 => ?_, hx.mono ((m.trans m2).trans m3)⟩
  obtain ⟨ds, e, z5⟩ := wL_of z4
  obtain ⟨p, vs, rfl, hp, r⟩ := ((hl2.mono m3).mono m4).vw R4 e
  refine ⟨p, vs, rfl, .of hp, fun n hn => ?_⟩
  obtain ⟨R5, r5⟩ := R4.fresh hn (cut_reps r l h)
  exact q _ _ _ _ _ z5 (((m.trans m2).trans m3).trans m4) R5 r5
theorem e_rev {a : Expr} {ea : E} {k : Nat} {p1 p2 p3 : Pos} (ha : PE X a (tE Γ cl X.K W ea)) : PE X (.Subscript a (.Slice none none (some (.UnaryOp .USub (.Constant (.int 1) k p1) p2)) p3) pos) (tE Γ cl X.K W (.rev ea)) := by
  refine PE.weak (pe_revL ha) fun σ H Q ⟨c, F, ρ, Q0, X0, R0, h, q, hx⟩ => ?_
  refine oneE R0 h hx fun r ρ' F' v H' z m R' rr => ?_
  obtain ⟨ds, e, z5⟩ := wL_of z
  obtain ⟨p, vs, rfl, hp, r⟩ := rr.vw R' e
  refine ⟨p, vs, rfl, .of hp, fun n hn => ?_⟩
  obtain ⟨R5, r5⟩ := R'.fresh hn r.rev
  exact q _ _ _ _ _ z5 m R5 r5

/-! ### and, or -/
def tBs (Γ : Tb) (cl : Str → Addr → Prop) (K : PySem.W.Frag) (W : WX) (f : (Bool → En → Prop) → QX → En → Prop) : TT := fun σ H Q => ∃ (c : Ct) (F : Hp) (ρ : En) (Q0 : Bool → En → Prop) (X0 : QX), Rl cl K c F ρ σ H ∧ f Q0 X0 ρ ∧
  (∀ r ρ' F' H', Q0 r ρ' → Same F F' → Rl cl K c F' ρ' σ H' → Q r H') ∧ ExL cl K c F σ W X0
abbrev tAT (Γ : Tb) (cl : Str → Addr → Prop) (K : PySem.W.Frag) (W : WX) (e : Bs) : TT := tBs Γ cl K W fun Q X ρ => dAT Γ e ρ Q X
abbrev tOT (Γ : Tb) (cl : Str → Addr → Prop) (K : PySem.W.Frag) (W : WX) (e : Bs) : TT := tBs Γ cl K W fun Q X ρ => dOT Γ e ρ Q X
theorem b_and1 {a : Expr} {ea : B} (ha : PT X a (tB' Γ cl X.K W ea)) : PW X (.BoolOp .And [a] pos) (tAT Γ cl X.K W (.cons ea .nil)) :=
  PW.weak (pw_and1 ha) fun σ H Q ⟨c, F, ρ, Q0, X0, R0, h, q, hx⟩ => oneB R0 h hx fun t ρ' F' H' z m R' => q _ _ F' H' z m R'
theorem b_or1 {a : Expr} {ea : B} (ha : PT X a (tB' Γ cl X.K W ea)) : PW X (.BoolOp .Or [a] pos) (tOT Γ cl X.K W (.cons ea .nil)) :=
  PW.weak (pw_or1 ha) fun σ H Q ⟨c, F, ρ, Q0, X0, R0, h, q, hx⟩ => oneB R0 h hx fun t ρ' F' H' z m R' => q _ _ F' H' z m R'
theorem b_and2 {a b : Expr} {rest : List Expr} {ea eb : B} {er : Bs} (ha : PT X a (tB' Γ cl X.K W ea)) (hb : PW X (.BoolOp .And (b :: rest) pos) (tAT Γ cl X.K W (.cons eb er))) : PW X (.BoolOp .And (a :: b :: rest) pos) (tAT Γ cl X.K W (.cons ea (.cons eb er))) := by
  refine PW.weak (pw_and ha hb) fun σ H Q ⟨c, F, ρ, Q0, X0, R0, h, q, hx⟩ => ?_
  refine oneB R0 h hx fun t ρ' F' H' z m R' => ?_
  cases t with
  | true =>
    rw [if_pos rfl] at z ⊢
    exact ⟨c, F', ρ', Q0, X0, R', z, fun r ρ2 F2 H2 y m' R2 => q r ρ2 F2 H2 y (m.trans m') R2, hx.mono m⟩
  | false =>
    rw [if_neg Bool.false_ne_true] at z ⊢
    exact q _ _ F' H' z m R'
theorem b_or2 {a b : Expr} {rest : List Expr} {ea eb : B} {er : Bs} (ha : PT X a (tB' Γ cl X.K W ea)) (hb : PW X (.BoolOp .Or (b :: rest) pos) (tOT Γ cl X.K W (.cons eb er))) : PW X (.BoolOp .Or (a :: b :: rest) pos) (tOT Γ cl X.K W (.cons ea (.cons eb er))) := by
  refine PW.weak (pw_or ha hb) fun σ H Q ⟨c, F, ρ, Q0, X0, R0, h, q, hx⟩ => ?_
  refine oneB R0 h hx fun t ρ' F' H' z m R' => ?_
  cases t with
  | false =>
    rw [if_neg Bool.false_ne_true] at z ⊢
    exact ⟨c, F', ρ', Q0, X0, R', z, fun r ρ2 F2 H2 y m' R2 => q r ρ2 F2 H2 y (m.trans m') R2, hx.mono m⟩
  | true =>
    rw [if_pos rfl] at z ⊢
    exact q _ _ F' H' z m R'
theorem b_and {a : Expr} {as : List Expr} {e : Bs} (h : PW X (.BoolOp .And (a :: as) pos) (tAT Γ cl X.K W e)) : PT X (.BoolOp .And (a :: as) pos) (tB' Γ cl X.K W (.and e)) :=
  PT.weak h.pt fun σ H Q ⟨c, F, ρ, Q0, X0, R0, h, q, hx⟩ => ⟨c, F, ρ, Q0, X0, R0, h, q, hx⟩
theorem b_or {a : Expr} {as : List Expr} {e : Bs} (h : PW X (.BoolOp .Or (a :: as) pos) (tOT Γ cl X.K W e)) : PT X (.BoolOp .Or (a :: as) pos) (tB' Γ cl X.K W (.or e)) :=
  PT.weak h.pt fun σ H Q ⟨c, F, ρ, Q0, X0, R0, h, q, hx⟩ => ⟨c, F, ρ, Q0, X0, R0, h, q, hx⟩
/-- as values -/
def tVs (Γ : Tb) (cl : Str → Addr → Prop) (K : PySem.W.Frag) (W : WX) (f : QE → QX → En → Prop) : TE := fun σ H Q => ∃ (c : Ct) (F : Hp) (ρ : En) (Q0 : QE) (X0 : QX), Rl cl K c F ρ σ H ∧ f Q0 X0 ρ ∧
  (∀ r ρ' F' v H', Q0 r ρ' → Same F F' → Rl cl K c F' ρ' σ H' → ResR cl K c F' ρ' σ H' v r → Q v H') ∧ ExL cl K c F σ W X0
abbrev tAV (Γ : Tb) (cl : Str → Addr → Prop) (K : PySem.W.Frag) (W : WX) (e : Es) : TE := tVs Γ cl K W fun Q X ρ => dAV Γ e ρ Q X
abbrev tOV (Γ : Tb) (cl : Str → Addr → Prop) (K : PySem.W.Frag) (W : WX) (e : Es) : TE := tVs Γ cl K W fun Q X ρ => dOV Γ e ρ Q X
theorem v_one {op} {a : Expr} {ea : E} (ha : PE X a (tE Γ cl X.K W ea)) : PE X (.BoolOp op [a] pos) (tE Γ cl X.K W ea) := pe_one ha
theorem v_and2 {a b : Expr} {rest : List Expr} {ea eb : E} {er : Es} (ha : PE X a (tE Γ cl X.K W ea)) (hb : PE X (.BoolOp .And (b :: rest) pos) (tAV Γ cl X.K W (.cons eb er))) : PE X (.BoolOp .And (a :: b :: rest) pos) (tAV Γ cl X.K W (.cons ea (.cons eb er))) := by
  refine PE.weak (pe_and ha hb) fun σ H Q ⟨c, F, ρ, Q0, X0, R0, h, q, hx⟩ => ?_
  refine oneE R0 h hx fun r ρ' F' v H' z m R' rr => ?_
  obtain ⟨t, e, z⟩ := z
  refine ⟨t, vw_bl (rr.vw R' e), ?_⟩
  cases t with
  | true =>
    rw [if_pos rfl] at z ⊢
    exact ⟨c, F', ρ', Q0, X0, R', z, fun r ρ2 F2 v H2 y m' R2 => q r ρ2 F2 v H2 y (m.trans m') R2, hx.mono m⟩
  | false =>
    rw [if_neg Bool.false_ne_true] at z ⊢
    exact q _ _ F' _ H' z m R' (.bl false)
theorem v_or2 {a b : Expr} {rest : List Expr} {ea eb : E} {er : Es} (ha : PE X a (tE Γ cl X.K W ea)) (hb : PE X (.BoolOp .Or (b :: rest) pos) (tOV Γ cl X.K W (.cons eb er))) : PE X (.BoolOp .Or (a :: b :: rest) pos) (tOV Γ cl X.K W (.cons ea (.cons eb er))) := by
  refine PE.weak (pe_or ha hb) fun σ H Q ⟨c, F, ρ, Q0, X0, R0, h, q, hx⟩ => ?_
  refine oneE R0 h hx fun r ρ' F' v H' z m R' rr => ?_
  obtain ⟨t, e, z⟩ := z
  refine ⟨t, vw_bl (rr.vw R' e), ?_⟩
  cases t with
  | false =>
    rw [if_neg Bool.false_ne_true] at z ⊢
    exact ⟨c, F', ρ', Q0, X0, R', z, fun r ρ2 F2 v H2 y m' R2 => q r ρ2 F2 v H2 y (m.trans m') R2, hx.mono m⟩
  | true =>
    rw [if_pos rfl] at z ⊢
    exact q _ _ F' _ H' z m R' (.bl true)
theorem v_and {a : Expr} {as : List Expr} {e : Es} (h : PE X (.BoolOp .And (a :: as) pos) (tAV Γ cl X.K W e)) : PE X (.BoolOp .And (a :: as) pos) (tE Γ cl X.K W (.and e)) := PE.weak h fun σ H Q z => z
theorem v_or {a : Expr} {as : List Expr} {e : Es} (h : PE X (.BoolOp .Or (a :: as) pos) (tOV Γ cl X.K W e)) : PE X (.BoolOp .Or (a :: as) pos) (tE Γ cl X.K W (.or e)) := PE.weak h fun σ H Q z => z
theorem v_and1 {a : Expr} {ea : E} (ha : PE X a (tE Γ cl X.K W ea)) : PE X (.BoolOp .And [a] pos) (tAV Γ cl X.K W (.cons ea .nil)) := PE.weak (pe_one ha) fun σ H Q z => z
theorem v_or1 {a : Expr} {ea : E} (ha : PE X a (tE Γ cl X.K W ea)) : PE X (.BoolOp .Or [a] pos) (tOV Γ cl X.K W (.cons ea .nil)) := PE.weak (pe_one ha) fun σ H Q z => z

/-! ### fields -/
theorem vw_ins {K : PySem.W.Frag} {n : Str} {es : List (Str × D)} (h : Vw cl K F H v (.ins n es)) : ∃ a C dx fs, v = .ref a ∧ cl n C ∧ F a = some (.ins C dx fs) ∧ RepF cl K F fs es := by
  cases (show Rep cl K F v (.ins n es) from h) with
  | ins h1 h2 h3 => exact ⟨_, _, _, _, rfl, h1, h2, h3⟩
theorem e_attr {g : Bool} {k : Nat} {o : Expr} {eo : E} {f : Str} (G : Gd X Γ cl g k W) (ho : PE X o (tE Γ cl X.K W eo)) (hb : attributeBase o f X.env (eval o X.env) = eval o X.env) : PE X (.Attribute o f pos) (tE Γ cl X.K W (.attr eo f)) := by
  refine PE.weak (pe_fld ho hb) fun σ H Q ⟨c, F, ρ, Q0, X0, R0, h, q, hx⟩ => ?_
  refine oneE R0 h hx fun r ρ' F' v H' z m R' rr => ?_
  obtain ⟨n, es, e, hf, z⟩ := wN_of z
  obtain ⟨d, ed, z⟩ := w1_of z
  obtain ⟨a, C, dx, fs, rfl, hc, ha, r⟩ := vw_ins (rr.vw R' e)
  obtain ⟨w, ew, rw'⟩ := r.look ed
  exact ⟨a, C, dx, fs, w, rfl, R'.fh _ _ ha, G.cls n C hc, G.fld n C f hc hf, ew, q _ _ F' _ H' z m R' rw'⟩
end
end M
set_option linter.all false
set_option Elab.async false
set_option maxRecDepth 10000
/-! MiniF: calls. -/
namespace M
open PySem PySem.Spec PyProof.Rows L2
section
variable {cl : Str → Addr → Prop} {K : PySem.W.Frag} {c : Ct} {F F' H H' : Hp} {ρ ρ1 : En} {σ : L2.St} {v u : V}
theorem keep_other {r : R} {d : D} {i : Nat} (h : keep ρ r = some (d, ρ1)) (hi : r ≠ .br i) : ρ1[i]? = ρ[i]? := by
  cases r with
  | sh e =>
    cases h
    rfl
  | fr ds =>
    cases h
    rfl
  | br j =>
    unfold M.keep at h
    cases es : ρ[j]? with
    | none =>
      simp only [es] at h
      cases h
    | some s =>
      cases s with
      | sh e =>
        simp only [es] at h
        cases h
        rfl
      | ow ds =>
        simp only [es] at h
        cases h
        rw [List.getElem?_set_ne]
        intro z
        exact hi (by rw [z])
      | dc ds =>
        simp only [es] at h
        cases h
        rw [List.getElem?_set_ne]
        intro z
        exact hi (by rw [z])
      | _ =>
        simp only [es] at h
        cases h
  | fd kvs => cases h
theorem argD_keep {i : Nat} : ∀ {ms : List Mo} {rs : List R} {ρ ρ1 : En} {ds : List D}, argD ms rs ρ = some (ds, ρ1) → i ∉ brIx ms rs → ρ1[i]? = ρ[i]?
  | [], [], ρ, ρ1, ds, h, _ => by
    cases h
    rfl
  | .sh :: ms, r :: rs, ρ, ρ1, ds, h, hi => by
    unfold argD at h
    split at h
    · rename_i d ρ2 e1
      split at h
      · rename_i ds' ρ3 e2
        cases h
        have hi2 : r ≠ .br i ∧ i ∉ brIx ms rs := by
          cases r with
          | br j =>
            have z : i ∉ j :: brIx ms rs := hi
            rw [List.mem_cons, not_or] at z
            exact ⟨fun y => z.1 (by cases y; rfl), z.2⟩
          | _ => exact ⟨fun y => (by cases y), hi⟩
        rw [argD_keep e2 hi2.2, keep_other e1 hi2.1]
      · cases h
    · cases h
  | .bo :: ms, r :: rs, ρ, ρ1, ds, h, hi => by
    unfold argD at h
    split at h
    · split at h
      · rename_i ds' ρ3 e2
        cases h
        have hi2 : i ∉ brIx ms rs := by
          cases r with
          | br j =>
            have z : i ∉ j :: brIx ms rs := hi
            rw [List.mem_cons, not_or] at z
            exact z.2
          | _ => exact hi
        exact argD_keep e2 hi2
      · cases h
    · cases h
  | .io :: ms, .br j :: rs, ρ, ρ1, ds, h, hi => by
    have hi2 : i ∉ brIx ms rs := hi
    unfold argD at h
    split at h
    · split at h
      · rename_i e2
        cases h
        exact argD_keep e2 hi2
      · cases h
    · split at h
      · rename_i e2
        cases h
        exact argD_keep e2 hi2
      · cases h
    · cases h
/-- the arguments as the callee sees them -/
theorem args_core : ∀ {ms : List Mo} {rs : List R} {vs : List V} {ds : List D} {ρ ρ1 : En} {F : Hp}, Rl cl K c F ρ σ H → Helds cl K F σ vs rs → argD ms rs ρ = some (ds, ρ1) → (∀ i ∈ ioIx ms rs, i ∉ brIx ms rs) →
    ∃ F1, Same F F1 ∧ Rl cl K c F1 ρ1 σ H ∧ ArgsR cl K F1 H vs ms ds
  | [], [], _, ds, ρ, ρ1, F, R0, .nil, h, _ => by
    cases h
    exact ⟨F, Same.refl F, R0, .nil⟩
  | .sh :: ms, r :: rs, v :: vs, ds, ρ, ρ1, F, R0, .cons hl hs, h, nb => by
    unfold argD at h
    split at h
    · rename_i d ρ2 e1
      split at h
      · rename_i ds' ρ3 e2
        cases h
        obtain ⟨F1, m1, R1, r1⟩ := hl.keep R0 e1
        obtain ⟨F2, m2, R2, a2⟩ := args_core R1 (hs.mono m1) e2 fun i hi z => nb i hi (by
          cases r with
          | br j => exact List.mem_cons_of_mem _ z
          | _ => exact z)
        exact ⟨F2, m1.trans m2, R2, .cons (r1.mono m2) a2⟩
      · cases h
    · cases h
  | .bo :: ms, r :: rs, v :: vs, ds, ρ, ρ1, F, R0, .cons hl hs, h, nb => by
    unfold argD at h
    split at h
    · rename_i d e1
      split at h
      · rename_i ds' ρ3 e2
        cases h
        obtain ⟨F2, m2, R2, a2⟩ := args_core R0 hs e2 fun i hi z => nb i hi (by
          cases r with
          | br j => exact List.mem_cons_of_mem _ z
          | _ => exact z)
        refine ⟨F2, m2, R2, .cons ?_ a2⟩
        have w := hl.vw R0 e1
        cases d with
        | lst l =>
          obtain ⟨a, ws, e, hh, r⟩ := w
          exact ⟨a, ws, e, hh, r.mono m2⟩
        | dct l =>
          obtain ⟨a, ws, e, hh, r⟩ := w
          exact ⟨a, ws, e, hh, r.mono m2⟩
        | _ => exact Rep.mono m2 w
      · cases h
    · cases h
  | .io :: ms, .br j :: rs, v :: vs, ds, ρ, ρ1, F, R0, .cons hl hs, h, nb => by
    have nb2 : ∀ i ∈ ioIx ms rs, i ∉ brIx ms rs := fun i hi => nb i (List.mem_cons_of_mem _ hi)
    have hj : j ∉ brIx ms rs := nb j List.mem_cons_self
    have e0 : σ[j]? = some (some v) := hl
    unfold argD at h
    split at h
    · rename_i es
      split at h
      · rename_i e2
        cases h
        obtain ⟨F2, m2, R2, a2⟩ := args_core R0 hs e2 nb2
        refine ⟨F2, m2, R2, .cons ?_ a2⟩
        obtain ⟨a, ws, e, h0, hf, hh, r⟩ := R2.sl j _ ((argD_keep e2 hj).trans es)
        rw [e0] at e
        cases e
        exact ⟨a, ws, rfl, hf, hh, r⟩
      · cases h
    · rename_i es
      split at h
      · rename_i e2
        cases h
        obtain ⟨F2, m2, R2, a2⟩ := args_core R0 hs e2 nb2
        refine ⟨F2, m2, R2, .cons ?_ a2⟩
        obtain ⟨a, ws, e, h0, hf, hh, r⟩ := R2.sl j _ ((argD_keep e2 hj).trans es)
        rw [e0] at e
        cases e
        exact ⟨a, ws, rfl, hf, hh, r⟩
      · cases h
    · cases h
/-- the slots that are handed in to be changed, and their addresses -/
inductive IoP (ρ : En) (σ : L2.St) : List Nat → List Addr → Prop
  | nil : IoP ρ σ [] []
  | cons {i a is as s} : ρ[i]? = some s → (∃ ds, s = .ow ds ∨ s = .io ds) → σ[i]? = some (some (V.ref a)) → IoP ρ σ is as → IoP ρ σ (i :: is) (a :: as)
theorem IoP.mem {is as a} (h : IoP ρ σ is as) (ha : a ∈ as) : ∃ i s, i ∈ is ∧ ρ[i]? = some s ∧ (∃ ds, s = .ow ds ∨ s = .io ds) ∧ σ[i]? = some (some (V.ref a)) := by
  induction h with
  | nil => cases ha
  | cons e1 e2 e3 r ih =>
    rcases List.mem_cons.mp ha with rfl | ha
    · exact ⟨_, _, List.mem_cons_self, e1, e2, e3⟩
    · obtain ⟨i, s, hi, q⟩ := ih ha
      exact ⟨i, s, List.mem_cons_of_mem _ hi, q⟩
theorem own_of {s : Sl} (h : ∃ ds, s = .ow ds ∨ s = .io ds) : s.own = true := by
  obtain ⟨ds, h | h⟩ := h <;> (rw [h]; rfl)
theorem IoP.nodup {is as} (R0 : Rl cl K c F ρ σ H) (h : IoP ρ σ is as) (nd : is.Nodup) : as.Nodup := by
  induction h with
  | nil => exact List.nodup_nil
  | @cons i a is as s e1 e2 e3 r ih =>
    rw [List.nodup_cons] at nd ⊢
    refine ⟨fun ha => ?_, ih nd.2⟩
    obtain ⟨j, t, hj, f1, f2, f3⟩ := r.mem ha
    exact R0.ap i j s t a (fun z => nd.1 (z ▸ hj)) e1 f1 (own_of e2) (own_of f2) e3 f3
theorem io_of : ∀ {ms : List Mo} {rs : List R} {vs : List V} {ds : List D} {ρ ρ1 : En}, Rl cl K c F' ρ1 σ H → Helds cl K F σ vs rs → argD ms rs ρ = some (ds, ρ1) → (∀ i ∈ ioIx ms rs, i ∉ brIx ms rs) → IoP ρ1 σ (ioIx ms rs) (ioA ms vs)
  | [], [], _, ds, ρ, ρ1, R0, .nil, h, _ => .nil
  | .sh :: ms, r :: rs, v :: vs, ds, ρ, ρ1, R0, .cons hl hs, h, nb => by
    unfold argD at h
    split at h
    · split at h
      · rename_i e2
        cases h
        have q := io_of R0 hs e2 fun i hi z => nb i hi (by
          cases r with
          | br j => exact List.mem_cons_of_mem _ z
          | _ => exact z)
        cases v <;> exact q
      · cases h
    · cases h
  | .bo :: ms, r :: rs, v :: vs, ds, ρ, ρ1, R0, .cons hl hs, h, nb => by
    unfold argD at h
    split at h
    · split at h
      · rename_i e2
        cases h
        have q := io_of R0 hs e2 fun i hi z => nb i hi (by
          cases r with
          | br j => exact List.mem_cons_of_mem _ z
          | _ => exact z)
        cases v <;> exact q
      · cases h
    · cases h
  | .io :: ms, .br j :: rs, v :: vs, ds, ρ, ρ1, R0, .cons hl hs, h, nb => by
    have nb2 : ∀ i ∈ ioIx ms rs, i ∉ brIx ms rs := fun i hi => nb i (List.mem_cons_of_mem _ hi)
    have hj : j ∉ brIx ms rs := nb j List.mem_cons_self
    have e0 : σ[j]? = some (some v) := hl
    unfold argD at h
    split at h
    · rename_i es
      split at h
      · rename_i e2
        cases h
        have e4 := (argD_keep e2 hj).trans es
        obtain ⟨a, ws, e, h0, hf, hh, r⟩ := R0.sl j _ e4
        rw [e0] at e
        cases e
        exact .cons e4 ⟨_, .inl rfl⟩ e0 (io_of R0 hs e2 nb2)
      · cases h
    · rename_i es
      split at h
      · rename_i e2
        cases h
        have e4 := (argD_keep e2 hj).trans es
        obtain ⟨a, ws, e, h0, hf, hh, r⟩ := R0.sl j _ e4
        rw [e0] at e
        cases e
        exact .cons e4 ⟨_, .inr rfl⟩ e0 (io_of R0 hs e2 nb2)
      · cases h
    · cases h
/-- what is lent is not what is handed in to be changed -/
theorem bo_apart {a : Addr} {i : Nat} {s : Sl} (hi : ρ1[i]? = some s) (ho : ∃ ds, s = .ow ds ∨ s = .io ds) (ha : σ[i]? = some (some (V.ref a))) (R1 : Rl cl K c F' ρ1 σ H) (m : Same F F') : ∀ {ms : List Mo} {rs : List R} {vs : List V} {ds : List D} {ρ : En},
    Helds cl K F σ vs rs → Rl cl K c F ρ σ H → argD ms rs ρ = some (ds, ρ1) → (ρ[i]? = some s) → i ∉ brIx ms rs → a ∉ boA ms vs ds := by
  intro ms
  have fa : F' a = none := by
    have q := R1.sl i s hi
    obtain ⟨es, rfl | rfl⟩ := ho
    · obtain ⟨b, ws, e, h0, hf, hh, r⟩ := q
      rw [ha] at e
      cases e
      exact hf
    · obtain ⟨b, ws, e, h0, hf, hh, r⟩ := q
      rw [ha] at e
      cases e
      exact hf
  have fa' : F a = none := by
    cases e : F a with
    | none => rfl
    | some o =>
      rw [m _ _ e] at fa
      cases fa
  suffices go : ∀ (ms : List Mo) (rs : List R) (vs : List V) (ds : List D) (ρ : En) (F2 : Hp), F2 a = none → Helds cl K F2 σ vs rs → Rl cl K c F2 ρ σ H → argD ms rs ρ = some (ds, ρ1) → ρ[i]? = some s → i ∉ brIx ms rs → a ∉ boA ms vs ds from
    fun {rs vs ds ρ} hs R0 h hi0 nb => go ms rs vs ds ρ F fa' hs R0 h hi0 nb
  intro ms
  induction ms with
  | nil =>
    intro rs vs ds ρ F2 _ hs R0 h _ _ z
    cases z
  | cons m0 ms ih =>
    intro rs vs ds ρ F2 f2 hs R0 h hi0 nb
    cases hs with
    | nil =>
      intro z
      cases m0 <;> cases z
    | @cons v r vs rs hl hs =>
      cases m0 with
      | sh =>
        unfold argD at h
        split at h
        · rename_i d ρ2 e1
          split at h
          · rename_i ds' ρ3 e2
            cases h
            have nb2 : r ≠ .br i ∧ i ∉ brIx ms rs := by
              cases r with
              | br j =>
                have z : i ∉ j :: brIx ms rs := nb
                rw [List.mem_cons, not_or] at z
                exact ⟨fun y => z.1 (by cases y; rfl), z.2⟩
              | _ => exact ⟨fun y => (by cases y), nb⟩
            obtain ⟨F3, m3, R3, _⟩ := hl.keep R0 e1
            have e5 := (keep_other e1 nb2.1).trans hi0
            have f3 : F3 a = none := by
              have q := R3.sl i s e5
              obtain ⟨es, rfl | rfl⟩ := ho
              · obtain ⟨b, ws, e, h0, hf, hh, r⟩ := q
                rw [ha] at e
                cases e
                exact hf
              · obtain ⟨b, ws, e, h0, hf, hh, r⟩ := q
                rw [ha] at e
                cases e
                exact hf
            have q := ih rs vs _ ρ2 F3 f3 (hs.mono m3) R3 e2 e5 nb2.2
            cases v <;> exact q
          · cases h
        · cases h
      | bo =>
        unfold argD at h
        split at h
        · rename_i d e1
          split at h
          · rename_i ds' ρ3 e2
            cases h
            have nb2 : r ≠ .br i ∧ i ∉ brIx ms rs := by
              cases r with
              | br j =>
                have z : i ∉ j :: brIx ms rs := nb
                rw [List.mem_cons, not_or] at z
                exact ⟨fun y => z.1 (by cases y; rfl), z.2⟩
              | _ => exact ⟨fun y => (by cases y), nb⟩
            have q := ih rs vs _ ρ F2 f2 hs R0 e2 hi0 nb2.2
            cases v with
            | ref b =>
              cases d with
              | lst l =>
                intro z
                have z' : a ∈ b :: boA ms vs ds' := z
                rcases List.mem_cons.mp z' with rfl | z'
                · -- the lent list is the one handed in
                  cases r with
                  | sh e =>
                    cases e1
                    cases (show Rep cl K F2 (V.ref a) (.lst l) from hl) with
                    | lst y _ =>
                      rw [f2] at y
                      cases y
                  | fr es =>
                    cases (show Rep cl K F2 (V.ref a) (.lst es) from hl) with
                    | lst y _ =>
                      rw [f2] at y
                      cases y
                  | br j =>
                    have ej : σ[j]? = some (some (V.ref a)) := hl
                    have hne : i ≠ j := fun y => nb2.1 (by rw [y])
                    cases es : ρ[j]? with
                    | none =>
                      unfold val at e1
                      simp only [es] at e1
                      cases e1
                    | some t =>
                      have sl := R0.sl j t es
                      cases t with
                      | sh e =>
                        unfold val at e1
                        simp only [es] at e1
                        cases e1
                        obtain ⟨x, ex, rx⟩ := sl
                        rw [ej] at ex
                        cases ex
                        cases rx with
                        | lst y _ =>
                          rw [f2] at y
                          cases y
                      | bo es' =>
                        obtain ⟨b', ws, ex, h0, hni, _⟩ := sl
                        rw [ej] at ex
                        cases ex
                        have qi := R0.sl i s hi0
                        obtain ⟨es2, rfl | rfl⟩ := ho
                        · obtain ⟨b2, ws2, e2', h02, _⟩ := qi
                          rw [ha] at e2'
                          cases e2'
                          rw [c.gB _ _ h0] at h02
                          cases h02
                        · obtain ⟨b2, ws2, e2', h02, _⟩ := qi
                          rw [ha] at e2'
                          cases e2'
                          exact hni.1 _ h02
                      | top =>
                        unfold val at e1
                        simp only [es] at e1
                        cases e1
                      | on dss =>
                        unfold val at e1
                        simp only [es] at e1
                        cases e1
                      | al o' j' es' =>
                        obtain ⟨a', as', b', ws, g', h1', ex, h3', _⟩ := sl
                        rw [ej] at ex
                        cases ex
                        have qi := R0.sl i s hi0
                        obtain ⟨es2, rfl | rfl⟩ := ho
                        · obtain ⟨b2, ws2, e2', h02, _⟩ := qi
                          rw [ha] at e2'
                          cases e2'
                          rw [h3'] at h02
                          cases h02
                        · obtain ⟨b2, ws2, e2', h02, _⟩ := qi
                          rw [ha] at e2'
                          cases e2'
                          exact (c.gf _ _ _ _ g' (List.mem_cons_of_mem _ (List.mem_of_getElem? h1'))).2.2.2 _ h02
                      | bd es' =>
                        unfold val at e1
                        simp only [es] at e1
                        cases e1
                      | _ => exact R0.ap i j s _ a hne hi0 es (own_of ho) rfl ha ej
                  | fd kvs => cases e1
                · exact q z'
              | dct l =>
                intro z
                have z' : a ∈ b :: boA ms vs ds' := z
                rcases List.mem_cons.mp z' with rfl | z'
                · cases r with
                  | sh e =>
                    cases e1
                    cases (show Rep cl K F2 (V.ref a) (.dct l) from hl) with
                    | dct y _ =>
                      rw [f2] at y
                      cases y
                  | fr es => cases e1
                  | br j =>
                    have ej : σ[j]? = some (some (V.ref a)) := hl
                    have hne : i ≠ j := fun y => nb2.1 (by rw [y])
                    cases es : ρ[j]? with
                    | none =>
                      unfold val at e1
                      simp only [es] at e1
                      cases e1
                    | some t =>
                      have sl := R0.sl j t es
                      cases t with
                      | sh e =>
                        unfold val at e1
                        simp only [es] at e1
                        cases e1
                        obtain ⟨x, ex, rx⟩ := sl
                        rw [ej] at ex
                        cases ex
                        cases rx with
                        | dct y _ =>
                          rw [f2] at y
                          cases y
                      | bd es' =>
                        obtain ⟨b', ws, ex, h0, hni, _⟩ := sl
                        rw [ej] at ex
                        cases ex
                        have qi := R0.sl i s hi0
                        obtain ⟨es2, rfl | rfl⟩ := ho
                        · obtain ⟨b2, ws2, e2', h02, _⟩ := qi
                          rw [ha] at e2'
                          cases e2'
                          rw [c.gB _ _ h0] at h02
                          cases h02
                        · obtain ⟨b2, ws2, e2', h02, _⟩ := qi
                          rw [ha] at e2'
                          cases e2'
                          exact hni.1 _ h02
                      | dc es' => exact R0.ap i j s _ a hne hi0 es (own_of ho) rfl ha ej
                      | _ =>
                        unfold val at e1
                        simp only [es] at e1
                        cases e1
                  | fd kvs => cases e1
                · exact q z'
              | _ => exact q
            | _ => exact q
          · cases h
        · cases h
      | io =>
        cases r with
        | br j =>
          have nb2 : i ∉ brIx ms rs := nb
          unfold argD at h
          split at h
          · split at h
            · rename_i e2
              cases h
              have q := ih rs vs _ ρ F2 f2 hs R0 e2 hi0 nb2
              cases v <;> exact q
            · cases h
          · split at h
            · rename_i e2
              cases h
              have q := ih rs vs _ ρ F2 f2 hs R0 e2 hi0 nb2
              cases v <;> exact q
            · cases h
          · cases h
        | _ =>
          unfold argD at h
          cases h

/-! ### behind a call -/
structure Rle (cl : Str → Addr → Prop) (K : PySem.W.Frag) (c : Ct) (F : Hp) (ρ : En) (σ : L2.St) (H : Hp) (ex : List Nat) : Prop where
  len : ρ.length = σ.length
  fh : Same F H
  f0 : Same c.F0 F
  fn : ∀ a, F a ≠ none → c.F0 a = none → c.H0 a = none
  kp : ∀ a o, c.H0 a = some o → (∀ j, (j, a) ∉ c.ios) → H a = some o
  sl : ∀ (i : Nat) s, i ∉ ex → ρ[i]? = some s → SlR cl K c F H i σ[i]? s
  ap : ∀ (i j : Nat) s t a, i ≠ j → ρ[i]? = some s → ρ[j]? = some t → s.own = true → t.own = true → σ[i]? = some (some (V.ref a)) → σ[j]? ≠ some (some (V.ref a))
  io : ∀ j a, (j, a) ∈ c.ios → c.H0 a ≠ none ∧ H a ≠ none
theorem Rle.all (h : Rle cl K c F ρ σ H []) : Rl cl K c F ρ σ H := ⟨h.len, h.fh, h.f0, h.fn, h.kp, fun i s => h.sl i s (by simp), h.ap, h.io⟩
theorem ap_set {i : Nat} {s s' : Sl} (hi : ρ[i]? = some s) (ho : s.own = true)
    (ap : ∀ (i j : Nat) s t a, i ≠ j → ρ[i]? = some s → ρ[j]? = some t → s.own = true → t.own = true → σ[i]? = some (some (V.ref a)) → σ[j]? ≠ some (some (V.ref a))) :
    ∀ (j k : Nat) s t a, j ≠ k → (ρ.set i s')[j]? = some s → (ρ.set i s')[k]? = some t → s.own = true → t.own = true → σ[j]? = some (some (V.ref a)) → σ[k]? ≠ some (some (V.ref a)) := by
  intro j k s1 t1 a hjk e1 e2 o1 o2
  have back : ∀ (j : Nat) (u : Sl), (ρ.set i s')[j]? = some u → u.own = true → ∃ u0, ρ[j]? = some u0 ∧ u0.own = true := fun j u e o => by
    by_cases z : i = j
    · subst z
      exact ⟨s, hi, ho⟩
    · rw [List.getElem?_set_ne z] at e
      exact ⟨u, e, o⟩
  obtain ⟨s0, e3, o3⟩ := back j s1 e1 o1
  obtain ⟨t0, e4, o4⟩ := back k t1 e2 o2
  exact ap j k s0 t0 a hjk e3 e4 o3 o4
/-- the lists that were handed in hold their new items -/
theorem put_core : ∀ {is : List Nat} {as : List Addr} {outs : List (List D)} {ρ : En}, Rle cl K c F' ρ σ H' is → IoP ρ σ is as → is.Nodup → OutsR cl K F' H' as outs →
    (∀ (i : Nat) (a : Addr) (ds : List D), ρ[i]? = some (Sl.ow ds) → σ[i]? = some (some (V.ref a)) → c.H0 a = none) → (∀ (i : Nat) (a : Addr) (ds : List D), ρ[i]? = some (Sl.io ds) → σ[i]? = some (some (V.ref a)) → (i, a) ∈ c.ios) → Rl cl K c F' (putOut is outs ρ) σ H'
  | [], _, _, ρ, h, .nil, _, .nil, _, _ => h.all
  | i :: is, a :: as, l :: ls, ρ, h, .cons (s := s) e1 e2 e3 r, nd, .cons h1 h2 h3 h4, hw, hq => by
    rw [List.nodup_cons] at nd
    have hl : i < ρ.length := (List.getElem?_eq_some_iff.mp e1).1
    have step : ∀ s' : Sl, s'.own = true → SlR cl K c F' H' i σ[i]? s' → Rle cl K c F' (ρ.set i s') σ H' is := fun s' ho q => by
      refine ⟨by rw [List.length_set]; exact h.len, h.fh, h.f0, h.fn, h.kp, fun j t hj e => ?_, ap_set e1 (own_of e2) h.ap, h.io⟩
      by_cases z : i = j
      · subst z
        rw [List.getElem?_set_self hl] at e
        cases e
        exact q
      · rw [List.getElem?_set_ne z] at e
        exact h.sl j t (by rw [List.mem_cons, not_or]; exact ⟨fun y => z y.symm, hj⟩) e
    have io2 : ∀ s' : Sl, IoP (ρ.set i s') σ is as := fun s' => by
      have nm : i ∉ is := nd.1
      clear step h nd h4
      induction r with
      | nil => exact .nil
      | @cons j b is as t f1 f2 f3 r ih =>
        rw [List.mem_cons, not_or] at nm
        exact .cons (by rw [List.getElem?_set_ne nm.1]; exact f1) f2 f3 (ih nm.2)
    have hw' : ∀ s', (∀ ds, s' = Sl.ow ds → c.H0 a = none) → ∀ (j : Nat) (b : Addr) (ds : List D), (ρ.set i s')[j]? = some (Sl.ow ds) → σ[j]? = some (some (V.ref b)) → c.H0 b = none := fun s' hs j b ds e eb => by
      by_cases z : i = j
      · subst z
        rw [List.getElem?_set_self hl] at e
        rw [e3] at eb
        cases eb
        cases e
        exact hs ds rfl
      · rw [List.getElem?_set_ne z] at e
        exact hw j b ds e eb
    have hq' : ∀ s', (∀ ds, s' = Sl.io ds → (i, a) ∈ c.ios) → ∀ (j : Nat) (b : Addr) (ds : List D), (ρ.set i s')[j]? = some (Sl.io ds) → σ[j]? = some (some (V.ref b)) → (j, b) ∈ c.ios := fun s' hs j b ds e eb => by
      by_cases z : i = j
      · subst z
        rw [List.getElem?_set_self hl] at e
        rw [e3] at eb
        cases eb
        cases e
        exact hs ds rfl
      · rw [List.getElem?_set_ne z] at e
        exact hq j b ds e eb
    unfold putOut
    obtain ⟨ds, rfl | rfl⟩ := e2
    · simp only [e1]
      have h0 := hw i a ds e1 e3
      exact put_core (step (.ow l) rfl ⟨a, _, e3, h0, h2, h1, h3⟩) (io2 _) nd.2 h4 (hw' _ fun _ _ => h0) (hq' _ fun _ z => by cases z)
    · simp only [e1]
      have h0 := hq i a ds e1 e3
      exact put_core (step (.io l) rfl ⟨a, _, e3, h0, h2, h1, h3⟩) (io2 _) nd.2 h4 (hw' _ fun _ z => by cases z) (hq' _ fun _ _ => h0)
/-- behind a call: the caller's own things -/
theorem aft_core {is : List Nat} {as : List Addr} {outs : List (List D)} (R1 : Rl cl K c F ρ σ H) (io : IoP ρ σ is as) (nd : is.Nodup) (A : Aft F H F' H' as) (O : OutsR cl K F' H' as outs) : Rl cl K c F' (putOut is outs ρ) σ H' := by
  have own_as : ∀ a, a ∈ as → c.H0 a = none ∨ ∃ i, (i, a) ∈ c.ios := fun a ha => by
    obtain ⟨i, s, hi, e1, e2, e3⟩ := io.mem ha
    have q := R1.sl i s e1
    obtain ⟨ds, rfl | rfl⟩ := e2
    · obtain ⟨b, ws, e, h0, _⟩ := q
      rw [e3] at e
      cases e
      exact .inl h0
    · obtain ⟨b, ws, e, h0, _⟩ := q
      rw [e3] at e
      cases e
      exact .inr ⟨i, h0⟩
  have fnew : ∀ a o, F a = none → H a = some o → F' a = none := fun a o f h => by
    cases e : F' a with
    | none => rfl
    | some u =>
      have z := A.fn a (by rw [e]; exact fun y => by cases y) f
      rw [h] at z
      cases z
  refine put_core ⟨R1.len, A.fh, R1.f0.trans A.ff, fun a e z => ?_, fun a o e z => ?_, fun i s hi e => ?_, R1.ap, fun j a z => ⟨(R1.io j a z).1, ?_⟩⟩ io nd O (fun i a ds e ea => ?_) (fun i a ds e ea => ?_)
  · cases f : F a with
    | none => exact R1.new0 (A.fn a e f)
    | some o => exact R1.fn a (by rw [f]; exact fun y => by cases y) z
  · refine A.kp a o (R1.kp a o e z) fun ha => ?_
    rcases own_as a ha with y | ⟨i, y⟩
    · rw [e] at y
      cases y
    · exact z i y
  · have q := R1.sl i s e
    have notas : ∀ a, s.own = true → σ[i]? = some (some (V.ref a)) → a ∉ as := fun a ho ea ha => by
      obtain ⟨j, t, hj, f1, f2, f3⟩ := io.mem ha
      exact R1.ap i j s t a (fun y => hi (y ▸ hj)) e f1 ho (own_of f2) ea f3
    cases s with
    | top => trivial
    | sh d =>
      obtain ⟨x, e1, r⟩ := q
      exact ⟨x, e1, r.mono A.ff⟩
    | bo ds =>
      obtain ⟨a, vs, e1, h0, hn, r⟩ := q
      exact ⟨a, vs, e1, h0, hn, r.mono A.ff⟩
    | ow ds =>
      obtain ⟨a, vs, e1, h0, hf, hh, r⟩ := q
      exact ⟨a, vs, e1, h0, fnew a _ hf hh, A.kp a _ hh (notas a rfl e1), r.mono A.ff⟩
    | io ds =>
      obtain ⟨a, vs, e1, h0, hf, hh, r⟩ := q
      exact ⟨a, vs, e1, h0, fnew a _ hf hh, A.kp a _ hh (notas a rfl e1), r.mono A.ff⟩
    | dc ds =>
      obtain ⟨a, vs, e1, h0, hf, hh, r⟩ := q
      exact ⟨a, vs, e1, h0, fnew a _ hf hh, A.kp a _ hh (notas a rfl e1), r.mono A.ff⟩
    | on dss =>
      obtain ⟨a, as', e1, g, l, q⟩ := q
      refine ⟨a, as', e1, g, l, fun j b ds h1 h2 => ?_⟩
      obtain ⟨vs, h3, r⟩ := q j b ds h1 h2
      exact ⟨vs, h3, r.mono A.ff⟩
    | al o j ds =>
      obtain ⟨a, as', b, vs, g, h1, e1, h3, r⟩ := q
      exact ⟨a, as', b, vs, g, h1, e1, h3, r.mono A.ff⟩
    | bd ds =>
      obtain ⟨a, vs, e1, h0, hn, r⟩ := q
      exact ⟨a, vs, e1, h0, hn, r.mono A.ff⟩
  · by_cases ha : a ∈ as
    · exact A.st a ha
    · cases h : H a with
      | none => exact absurd h (R1.io j a z).2
      | some o =>
        rw [A.kp a o h ha]
        exact fun y => by cases y
  · obtain ⟨b, ws, e1, h0, _⟩ := R1.sl i _ e
    rw [ea] at e1
    cases e1
    exact h0
  · obtain ⟨b, ws, e1, h0, _⟩ := R1.sl i _ e
    rw [ea] at e1
    cases e1
    exact h0
theorem put_own {is : List Nat} {outs : List (List D)} : ∀ {ρ : En} {i : Nat} {s : Sl}, (putOut is outs ρ)[i]? = some s → s.own = true → ∃ s0, ρ[i]? = some s0 ∧ s0.own = true := by
  induction is generalizing outs with
  | nil =>
    intro ρ i s e o
    cases outs <;> exact ⟨s, e, o⟩
  | cons j is ih =>
    intro ρ i s e o
    cases outs with
    | nil => exact ⟨s, e, o⟩
    | cons l ls =>
      unfold putOut at e
      obtain ⟨s0, e0, o0⟩ := ih e o
      have back : ∀ u : Sl, ∀ t, ρ[j]? = some t → t.own = true → (ρ.set j u)[i]? = some s0 → ∃ s1, ρ[i]? = some s1 ∧ s1.own = true := fun u t et ot e => by
        by_cases z : j = i
        · subst z
          exact ⟨t, et, ot⟩
        · rw [List.getElem?_set_ne z] at e
          exact ⟨s0, e, o0⟩
      split at e0
      · rename_i et
        exact back _ _ et rfl e0
      · rename_i et
        exact back _ _ et rfl e0
      · exact ⟨s0, e0, o0⟩
/-- THE CALL: what the callee asks, from what the caller knows -/
theorem call_core {W : WX} {fn : Fn} {rs : List R} {vs : List V} {Q0 : QE} {X0 : QX} {Q : VK} (R0 : Rl cl K c F ρ σ H) (hs : Helds cl K F σ vs rs) (h : dCall (some fn) rs ρ Q0 X0)
    (q : ∀ r ρ' F' v H', Q0 r ρ' → Same F F' → Rl cl K c F' ρ' σ H' → ResR cl K c F' ρ' σ H' v r → Q v H') (hx : ExL cl K c F σ W X0) : spOf cl K fn vs H Q (WE W σ) := by
  obtain ⟨fn', e0, h⟩ := w1_of h
  cases e0
  obtain ⟨ds, ρ1, e1, nd, nb, h⟩ := w2_of h
  obtain ⟨F1, m1, R1, A1⟩ := args_core R0 hs e1 nb
  have io := io_of R1 (hs.mono m1) e1 nb
  refine ⟨F1, ds, _, _, R1.fh, A1, io.nodup R1 nd, fun a ha => ?_, h, fun r outs v F' H' z A r1 O => ?_, fun x cc d F' H' z A ex => ?_⟩
  · obtain ⟨i, s, hi, f1, f2, f3⟩ := io.mem ha
    exact bo_apart f1 f2 f3 R1 m1 hs R0 e1 (by rw [← argD_keep e1 (nb i hi)]; exact f1) (nb i hi)
  · have R2 := aft_core R1 io nd A O
    refine q _ _ F' v H' z (m1.trans A.ff) R2 ?_
    cases r with
    | sh d => exact r1
    | fr l =>
      obtain ⟨a, ws, rfl, h0, hf, hh, rr⟩ := r1
      refine ⟨a, ws, rfl, R1.new0 h0, hf, hh, rr, fun i s e o z2 => ?_⟩
      obtain ⟨s0, e2, o2⟩ := put_own e o
      exact R1.ne_own h0 i s0 e2 o2 z2
  · obtain ⟨z1, z⟩ := z
    rw [z1] at io
    have nil_of : ∀ as, IoP ρ1 σ [] as → as = [] := fun as z => by
      cases z
      rfl
    have ia := nil_of _ io
    rw [ia] at A
    exact hx x ρ1 F' H' cc d z (m1.trans A.ff) (aft_core (is := []) (as := []) (outs := []) R1 .nil List.nodup_nil A .nil) ex
end
end M
set_option linter.all false
set_option Elab.async false
set_option maxRecDepth 10000
/-! MiniG: calls and built-in functions as expressions. -/
namespace M
open PySem PySem.Spec PyProof.Rows L2
section
variable {X : Cx} {Γ : Tb} {cl : Str → Addr → Prop} {W : WX} {c : Ct} {F F' H H' : Hp} {ρ : En} {σ : L2.St} {v u : V} {pos p apos : Pos} {g : Bool} {k : Nat}
theorem Gd.rm1 (G : Gd X Γ cl g k W) : Room (k + 1) X.A := G.rm.mono (Nat.le_succ _)
theorem Gd.low (G : Gd X Γ cl g k W) : Room k X.A := G.rm1.mono (Nat.le_succ k)
theorem Gd.units (G : Gd X Γ cl g k W) : X.A.units + 65 < cLine := by
  have := G.rm.un
  omega
theorem e_call {x : Str} {fn : Fn} {e : Expr} {es : List Expr} {ee : Es} (G : Gd X Γ cl g k W) (hf : Γ.f x = some fn) (hg : Gl X x) (ha : PA X (e :: es) (tEs Γ cl X.K W ee)) (hdb : (x == ("__debug__" : Str)) = false)
    (he : starEach (e :: es) X.env = (false, eval e X.env) :: starEach es X.env) (hpl : (backTo pos (starEach es X.env)).any (·.1) = false) : PE X (.Call (.Name x p) (e :: es) [] pos) (tE Γ cl X.K W (.call x ee)) := by
  refine ⟨fun pins s σ H Q I ⟨c, F, ρ, Q0, X0, R0, h, q, hx⟩ => ?_⟩
  obtain ⟨f, fd, ps, dvs, ds, hm, hk, hd, hb, Fn⟩ := G.fn x fn hf
  refine wpAny_Call_Name_kw (ld_glob I hg hm ?_ hdb)
  have args := ha.run pos pins s σ H (fun vs H1 => spOf cl X.K fn vs H1 Q (WE W σ)) I (oneA R0 h hx fun rs ρ1 F1 vs H1 z m R1 hs => call_core R1 hs (by rw [hf] at z; exact z) (fun r ρ' F' v H' y m' => q r ρ' F' v H' y (m.trans m')) (hx.mono m))
  refine PySem.W.callWith_K (h₀ := X.base) I.ok.mod.kin hk (thn args fun us s1 ⟨vs, H1, I1, r, y⟩ => ?_) he hpl
  exact ⟨I1.kIn, run_g (ks := []) (ws := []) (zs := []) (dvs := dvs) Fn G.low G.gd hb hd (passAt G.tk σ) I1 r .nil rfl ⟨vs, by rw [List.append_nil], y⟩⟩
/-- o.m(..) -/
theorem meth_core {pl : Sem Bool} {o : Expr} {eo : E} {m : Str} {es : List Expr} {ee : Es} (G : Gd X Γ cl g k W) (ho : PE X o (tE Γ cl X.K W eo)) (ha : PA X es (tEs Γ cl X.K W ee))
    (next : ∀ (a f : Addr) (s : Shared) (Q : Value → Shared → Prop), PySem.W.keepIn X.K (.ref f) = true → X.K.In s.heap → wpAny (model X.prog X.w) X.A (spliced (backTo pos (starEach es X.env))) (fun us s1 => X.K.In s1.heap ∧ wpAny (model X.prog X.w) X.A (call (.ref f) (.ref a :: us)) Q X.xe s1) X.xe s →
      wpAny (model X.prog X.w) X.A (callWith pos (.ref f) [.ref a] (backTo pos (starEach es X.env)) (backToKw pos (keywordEach [] X.env))) Q X.xe s)
    (ht : eval (.Call (.Attribute o m apos) es [] pos) X.env = (do
      let ov ← eval o X.env
      standAt apos.atName
      let (f, first) ← holding [ov] (getMethod ov m pl)
      callWith pos f first (backTo pos (starEach es X.env)) (backToKw pos (keywordEach [] X.env)))) :
    PE X (.Call (.Attribute o m apos) es [] pos) (tE Γ cl X.K W (.meth eo m ee)) := by
  refine ⟨fun pins s σ H Q I ⟨c, F, ρ, Q0, X0, R0, h, q, hx⟩ => ?_⟩
  have recv := ho.run pins s σ H (fun v H1 => ∃ (n : Str) (es' : List (Str × D)) (F1 : Hp) (ρ1 : En) (a C dx : Addr) (fs : List (Str × V)), Same F F1 ∧ Rl cl X.K c F1 ρ1 σ H1 ∧ v = .ref a ∧ cl n C ∧ F1 a = some (.ins C dx fs) ∧ fs.lookup m = none ∧ RepF cl X.K F1 fs es' ∧ (Γ.m n m).isSome = true ∧
      dA Γ ee ρ1 (fun rs ρ2 => dCall (Γ.m n m) (.sh (.ins n es') :: rs) ρ2 Q0 X0) X0) I (oneE R0 h hx fun ro ρ1 F1 v H1 z m1 R1 r1 => by
    obtain ⟨n, es', e, hl, hsome, z⟩ := wN_of z
    obtain ⟨a, C, dx, fs, rfl, hc, hfa, rf⟩ := vw_ins (r1.vw R1 e)
    exact ⟨n, es', F1, ρ1, a, C, dx, fs, m1, R1, rfl, hc, hfa, rf.look0 hl, rf, hsome, z⟩)
  refine PySem.W.methodCall_KW (pl := pl) (thn recv fun w s1 ⟨y, H1, I1, ry, n, es', F1, ρ1, a, C, dx, fs, m1, R1, ey, hc, hfa, hl, rf, hsome, z⟩ => ?_) ht
  subst ey
  obtain rfl : w = Value.ref a := ry
  cases hfn : Γ.m n m with
  | none =>
    rw [hfn] at hsome
    cases hsome
  | some fn =>
    obtain ⟨f, fd, ps, dvs, ds, hme, hd, hb, Fn⟩ := G.mt n C m fn hc hfn
    rw [hfn] at z
    refine getmeth_ok I1 (R1.fh _ _ hfa) (G.cls n C hc) hme hl ?_
    have args := ha.run pos pins s1 σ H1 (fun vs H2 => spOf cl X.K fn (.ref a :: vs) H2 Q (WE W σ)) I1 (oneA R1 z (hx.mono m1) fun rs ρ2 F2 vs H2 y m2 R2 hs =>
      call_core R2 (.cons (show Held cl X.K F2 σ (.ref a) (.sh (.ins n es')) from Rep.ins hc (m2 _ _ hfa) (rf.mono m2)) hs) y (fun r ρ' F' v H' y m' => q r ρ' F' v H' y ((m1.trans m2).trans m')) (hx.mono (m1.trans m2)))
    refine next a f _ _ hme.kp I1.kIn (thn args fun us s2 ⟨vs, H2, I2, r, y⟩ => ?_)
    exact ⟨I2.kIn, run_g (ks := []) (ws := []) (zs := []) (dvs := dvs) (vs := .ref a :: vs) (us := .ref a :: us) Fn G.low G.gd hb hd (passAt G.tk σ) I2 (.cons rfl r) .nil rfl ⟨.ref a :: vs, by rw [List.append_nil], y⟩⟩
/-- o.m() -/
theorem meth_core0 {pl : Sem Bool} {o : Expr} {eo : E} {m : Str} (G : Gd X Γ cl g k W) (ho : PE X o (tE Γ cl X.K W eo))
    (ht : eval (.Call (.Attribute o m apos) [] [] pos) X.env = (do
      let ov ← eval o X.env
      standAt apos.atName
      let (f, first) ← holding [ov] (getMethod ov m pl)
      callWith pos f first (backTo pos (starEach [] X.env)) (backToKw pos (keywordEach [] X.env)))) :
    PE X (.Call (.Attribute o m apos) [] [] pos) (tE Γ cl X.K W (.meth eo m .nil)) := by
  refine ⟨fun pins s σ H Q I ⟨c, F, ρ, Q0, X0, R0, h, q, hx⟩ => ?_⟩
  have recv := ho.run pins s σ H (fun v H1 => ∃ (n : Str) (es' : List (Str × D)) (F1 : Hp) (ρ1 : En) (a C dx : Addr) (fs : List (Str × V)), Same F F1 ∧ Rl cl X.K c F1 ρ1 σ H1 ∧ v = .ref a ∧ cl n C ∧ F1 a = some (.ins C dx fs) ∧ fs.lookup m = none ∧ RepF cl X.K F1 fs es' ∧ (Γ.m n m).isSome = true ∧
      dA Γ .nil ρ1 (fun rs ρ2 => dCall (Γ.m n m) (.sh (.ins n es') :: rs) ρ2 Q0 X0) X0) I (oneE R0 h hx fun ro ρ1 F1 v H1 z m1 R1 r1 => by
    obtain ⟨n, es', e, hl, hsome, z⟩ := wN_of z
    obtain ⟨a, C, dx, fs, rfl, hc, hfa, rf⟩ := vw_ins (r1.vw R1 e)
    exact ⟨n, es', F1, ρ1, a, C, dx, fs, m1, R1, rfl, hc, hfa, rf.look0 hl, rf, hsome, z⟩)
  refine PySem.W.methodCall_KW (pl := pl) (thn recv fun w s1 ⟨y, H1, I1, ry, n, es', F1, ρ1, a, C, dx, fs, m1, R1, ey, hc, hfa, hl, rf, hsome, z⟩ => ?_) ht
  subst ey
  obtain rfl : w = Value.ref a := ry
  cases hfn : Γ.m n m with
  | none =>
    rw [hfn] at hsome
    cases hsome
  | some fn =>
    obtain ⟨f, fd, ps, dvs, ds, hme, hd, hb, Fn⟩ := G.mt n C m fn hc hfn
    rw [hfn] at z
    refine getmeth_ok I1 (R1.fh _ _ hfa) (G.cls n C hc) hme hl ?_
    have y := call_core (vs := [.ref a]) R1 (.cons (show Held cl X.K F1 σ (.ref a) (.sh (.ins n es')) from Rep.ins hc hfa rf) .nil) (show dCall (some fn) [.sh (.ins n es')] ρ1 Q0 X0 from z) (fun r ρ' F' v H' y m' => q r ρ' F' v H' y (m1.trans m')) (hx.mono m1)
    exact PySem.W.callWith_K0 (first := [.ref a]) I1.kIn hme.kp (run_g (ks := []) (ws := []) (zs := []) (dvs := dvs) (vs := [.ref a]) (us := [.ref a]) Fn G.low G.gd hb hd (passAt G.tk σ) I1 (.cons rfl .nil) .nil rfl ⟨[.ref a], by rw [List.append_nil], y⟩)
/-- o.f, a property -/
theorem e_prop {o : Expr} {eo : E} {f : Str} (G : Gd X Γ cl g k W) (ho : PE X o (tE Γ cl X.K W eo)) (hab : attributeBase o f X.env (eval o X.env) = eval o X.env) : PE X (.Attribute o f pos) (tE Γ cl X.K W (.prop eo f)) := by
  refine ⟨fun pins s σ H Q I ⟨c, F, ρ, Q0, X0, R0, h, q, hx⟩ => ?_⟩
  have recv := ho.run pins s σ H (fun v H1 => ∃ (n : Str) (es' : List (Str × D)) (F1 : Hp) (ρ1 : En) (a C dx : Addr) (fs : List (Str × V)), Same F F1 ∧ Rl cl X.K c F1 ρ1 σ H1 ∧ v = .ref a ∧ cl n C ∧ F1 a = some (.ins C dx fs) ∧ RepF cl X.K F1 fs es' ∧
      dCall (Γ.p n f) [.sh (.ins n es')] ρ1 Q0 nEx) I (oneE R0 h hx fun ro ρ1 F1 v H1 z m1 R1 r1 => by
    obtain ⟨n, es', e, z⟩ := wN_of z
    obtain ⟨a, C, dx, fs, rfl, hc, hfa, rf⟩ := vw_ins (r1.vw R1 e)
    exact ⟨n, es', F1, ρ1, a, C, dx, fs, m1, R1, rfl, hc, hfa, rf, z⟩)
  refine attr_of hab (thn recv fun w s1 ⟨y, H1, I1, ry, n, es', F1, ρ1, a, C, dx, fs, m1, R1, ey, hc, hfa, rf, z⟩ => ?_)
  subst ey
  obtain rfl : w = Value.ref a := ry
  cases hfn : Γ.p n f with
  | none =>
    rw [hfn] at z
    exact z.elim
  | some fn =>
    obtain ⟨pp, qq, fd, ps, hp, hb, Fn⟩ := G.pr n C f fn hc hfn
    rw [hfn] at z
    refine getprop_ok (dvs := []) (ds := []) (E := E0) I1 (R1.fh _ _ hfa) (G.cls n C hc) hp Fn G.rm1 hb .nil passL ?_
    exact call_core (W := fun _ _ _ _ => False) (rs := [.sh (.ins n es')]) R1 (.cons (show Held cl X.K F1 σ (.ref a) (.sh (.ins n es')) from Rep.ins hc hfa rf) .nil) z (fun r ρ' F' v H' y m' => q r ρ' F' v H' y (m1.trans m')) fun _ _ _ _ _ _ z => z.elim
/-- C(..) -/
theorem e_make {x : Str} {fn : Fn} {e : Expr} {es : List Expr} {ee : Es} (G : Gd X Γ cl g k W) (hf : Γ.mke x = some fn) (hg : Gl X x) (ha : PA X (e :: es) (tEs Γ cl X.K W ee)) (hdb : (x == ("__debug__" : Str)) = false)
    (he : starEach (e :: es) X.env = (false, eval e X.env) :: starEach es X.env) (hpl : (backTo pos (starEach es X.env)).any (·.1) = false) : PE X (.Call (.Name x p) (e :: es) [] pos) (tE Γ cl X.K W (.make x ee)) := by
  refine ⟨fun pins s σ H Q I ⟨c, F, ρ, Q0, X0, R0, h, q, hx⟩ => ?_⟩
  obtain ⟨C, fI, fd, ps, spI, hc, hm, M, hb, Fn, conv⟩ := G.mkr x fn hf
  refine wpAny_Call_Name_kw (ld_glob I hg hm ?_ hdb)
  have args := ha.run pos pins s σ H (fun vs H1 => spOf cl X.K fn vs H1 Q (WE W σ)) I (oneA R0 h hx fun rs ρ1 F1 vs H1 z m R1 hs => call_core R1 hs (by rw [hf] at z; exact z) (fun r ρ' F' v H' y m' => q r ρ' F' v H' y (m.trans m')) (hx.mono m))
  refine PySem.W.callWith_K (h₀ := X.base) I.ok.mod.kin M.kp (thn args fun us s1 ⟨vs, H1, I1, r, y⟩ => ?_) he hpl
  refine ⟨I1.kIn, ?_⟩
  have hsp := conv vs H1 Q (WE W σ) y (s1.heap.objs.size + 1) s1.heap.objs.size (I1.hok.fresh (Nat.le_succ _)) (I1.hok.fresh (Nat.le_refl _)) (Nat.ne_of_lt (Nat.lt_succ_self _))
  have I2 := Inv.made (C := C) I1
  have r2 : Vals (V.ref (s1.heap.objs.size + 1) :: vs) (Value.ref (s1.heap.objs.size + 1) :: us) := .cons rfl r
  have hl : ((Value.ref (s1.heap.objs.size + 1) :: us) ++ ([] : List Value)).length = ps.length := by
    rw [List.append_nil, ← r2.length]
    exact Fn.len _ _ _ _ hsp
  have bb := hb _ (Value.ref (s1.heap.objs.size + 1) :: us) I2.kIn hl
  rw [List.append_nil] at bb
  refine wpAny_call (make_map (f := fI) I1.kIn M.makes M.init (beq_iff_eq.mp M.fn) (codeAny_mono (Fn.run _ X.stack _ _ _ _ _ _ (WE W σ) (G.rm1.make C us []) (I2.env0.make C us []) bb r2 hsp) fun res s' hq => ?_))
  cases res with
  | error er => exact passAt G.tk σ _ _ _ er s' I2 hq
  | ok fl =>
    cases fl with
    | ret w =>
      obtain ⟨z, H', I3, rv, ev, q3⟩ := I2.after hq
      subst ev
      exact ⟨rv, ⟨V.ref (s1.heap.objs.size + 1), H', I3, rfl, q3⟩⟩
    | next => exact hq.elim
    | brk => exact hq.elim
    | cont => exact hq.elim

/-! ### built-in functions -/
inductive Vws (cl : Str → Addr → Prop) (K : PySem.W.Frag) (F H : Hp) : List V → List D → Prop
  | nil : Vws cl K F H [] []
  | cons {v d vs ds} : Vw cl K F H v d → Vws cl K F H vs ds → Vws cl K F H (v :: vs) (d :: ds)
theorem Helds.vws {K : PySem.W.Frag} (R0 : Rl cl K c F ρ σ H) : ∀ {vs rs ds}, Helds cl K F σ vs rs → vals ρ rs = some ds → Vws cl K F H vs ds
  | _, _, ds, .nil, h => by
    cases h
    exact .nil
  | _, _, ds, .cons (r := r) hl hs, h => by
    unfold vals at h
    split at h
    · rename_i d e
      obtain ⟨es, e2, rfl⟩ := Option.map_eq_some_iff.mp h
      exact .cons (hl.vw R0 e) (hs.vws R0 e2)
    · cases h
theorem reps_of_ints {K : PySem.W.Frag} {F : Hp} : ∀ ns : List Int, Reps cl K F (ns.map V.int) (ns.map D.int)
  | [] => .nil
  | n :: ns => .cons (.int n) (reps_of_ints ns)
def BiOk (cl : Str → Addr → Prop) (K : PySem.W.Frag) (f : Bi) (r : List V → Hp → VK → Prop) : Prop := ∀ (c : Ct) (F : Hp) (ρ : En) (σ : L2.St) (H : Hp) (vs : List V) (ds : List D) (Q0 : R → Prop) (Q : VK), Rl cl K c F ρ σ H → Vws cl K F H vs ds → dBi f ds Q0 →
  (∀ res v' F' H', Q0 res → Same F F' → Rl cl K c F' ρ σ H' → ResR cl K c F' ρ σ H' v' res → Q v' H') → r vs H Q
theorem bi_len {K : PySem.W.Frag} : BiOk cl K .len (fun xs H Q => ∃ p ys, xs = [.ref p] ∧ (SqL K H p ys ∨ SqT K H p ys) ∧ Q (.int ys.length) H) := by
  intro c F ρ σ H vs ds Q0 Q R0 hv h q
  cases hv with
  | nil => exact h.elim
  | @cons v d vs ds h1 h2 =>
    cases h2 with
    | cons _ _ => cases d <;> exact h.elim
    | nil =>
      cases d with
      | lst l =>
        obtain ⟨a, ws, rfl, hh, r⟩ := h1
        refine ⟨a, ws, rfl, .inl (.of hh), ?_⟩
        rw [r.len]
        exact q _ _ F H h (Same.refl F) R0 (.int _)
      | tup l =>
        cases (show Rep cl K F v (.tup l) from h1) with
        | tup hh r =>
          refine ⟨_, _, rfl, .inr (.of (R0.fh _ _ hh)), ?_⟩
          rw [r.len]
          exact q _ _ F H h (Same.refl F) R0 (.int _)
      | scr ns =>
        cases (show Rep cl K F v (.scr ns) from h1) with
        | scr hh =>
          refine ⟨_, _, rfl, .inl (R0.fh.seq hh), ?_⟩
          rw [List.length_map]
          exact q _ _ F H h (Same.refl F) R0 (.int _)
      | _ => exact h.elim
theorem bi_abs {K : PySem.W.Frag} : BiOk cl K .abs (fun xs H Q => ∃ i, xs = [.int i] ∧ Q (.int (if i < 0 then -i else i)) H) := by
  intro c F ρ σ H vs ds Q0 Q R0 hv h q
  cases hv with
  | nil => exact h.elim
  | @cons v d vs ds h1 h2 =>
    cases h2 with
    | cons _ _ => cases d <;> exact h.elim
    | nil =>
      cases d with
      | int i => exact ⟨i, by rw [vw_int h1], q _ _ F H h (Same.refl F) R0 (.int _)⟩
      | _ => exact h.elim
theorem bi_int {K : PySem.W.Frag} : BiOk cl K .int (fun xs H Q => (∃ i, xs = [.int i] ∧ Q (.int i) H) ∨ ∃ k, xs = [.bl k] ∧ Q (.int (if k then 1 else 0)) H) := by
  intro c F ρ σ H vs ds Q0 Q R0 hv h q
  cases hv with
  | nil => exact h.elim
  | @cons v d vs ds h1 h2 =>
    cases h2 with
    | cons _ _ => cases d <;> exact h.elim
    | nil =>
      cases d with
      | int i => exact .inl ⟨i, by rw [vw_int h1], q _ _ F H h (Same.refl F) R0 (.int _)⟩
      | _ => exact h.elim
theorem bi_max {K : PySem.W.Frag} : BiOk cl K .max (fun xs H Q => (∃ i j, xs = [.int i, .int j] ∧ Q (.int (if j > i then j else i)) H) ∨ rMax K xs H Q) := by
  intro c F ρ σ H vs ds Q0 Q R0 hv h q
  cases hv with
  | nil => exact h.elim
  | @cons v d vs ds h1 h2 =>
    cases h2 with
    | nil =>
      cases d with
      | lst l =>
        obtain ⟨ns, e, hne, h⟩ := w1_of h
        obtain ⟨a, ws, rfl, hh, r⟩ := h1
        rw [intsOf_map e] at r
        rw [reps_ints r] at hh
        refine .inr ⟨a, ns, rfl, .of hh, ?_, fun m hm hy => q _ _ F H (h m hm hy) (Same.refl F) R0 (.int _)⟩
        cases ns with
        | nil => exact absurd rfl hne
        | cons _ _ => exact Nat.succ_pos _
      | _ => exact h.elim
    | @cons w e vs ds h3 h4 =>
      cases h4 with
      | cons _ _ => cases d <;> cases e <;> exact h.elim
      | nil =>
        cases d with
        | int i =>
          cases e with
          | int j => exact .inl ⟨i, j, by rw [vw_int h1, vw_int h3], q _ _ F H h (Same.refl F) R0 (.int _)⟩
          | _ => exact h.elim
        | _ => cases e <;> exact h.elim
theorem bi_min {K : PySem.W.Frag} : BiOk cl K .min (fun xs H Q => (∃ i j, xs = [.int i, .int j] ∧ Q (.int (if j < i then j else i)) H) ∨ rMin K xs H Q) := by
  intro c F ρ σ H vs ds Q0 Q R0 hv h q
  cases hv with
  | nil => exact h.elim
  | @cons v d vs ds h1 h2 =>
    cases h2 with
    | nil =>
      cases d with
      | lst l =>
        obtain ⟨ns, e, hne, h⟩ := w1_of h
        obtain ⟨a, ws, rfl, hh, r⟩ := h1
        rw [intsOf_map e] at r
        rw [reps_ints r] at hh
        refine .inr ⟨a, ns, rfl, .of hh, ?_, fun m hm hy => q _ _ F H (h m hm hy) (Same.refl F) R0 (.int _)⟩
        cases ns with
        | nil => exact absurd rfl hne
        | cons _ _ => exact Nat.succ_pos _
      | _ => exact h.elim
    | @cons w e vs ds h3 h4 =>
      cases h4 with
      | cons _ _ => cases d <;> cases e <;> exact h.elim
      | nil =>
        cases d with
        | int i =>
          cases e with
          | int j => exact .inl ⟨i, j, by rw [vw_int h1, vw_int h3], q _ _ F H h (Same.refl F) R0 (.int _)⟩
          | _ => exact h.elim
        | _ => cases e <;> exact h.elim
theorem bi_sum {K : PySem.W.Frag} : BiOk cl K .sum (rSum K) := by
  intro c F ρ σ H vs ds Q0 Q R0 hv h q
  cases hv with
  | nil => exact h.elim
  | @cons v d vs ds h1 h2 =>
    cases h2 with
    | cons _ _ => cases d <;> exact h.elim
    | nil =>
      cases d with
      | lst l =>
        obtain ⟨ns, e, h⟩ := w1_of h
        obtain ⟨a, ws, rfl, hh, r⟩ := h1
        rw [intsOf_map e] at r
        rw [reps_ints r] at hh
        exact ⟨a, ns, rfl, .of hh, q _ _ F H h (Same.refl F) R0 (.int _)⟩
      | _ => exact h.elim
/-- sorted(xs), ints -/
def rSortedN (K : PySem.W.Frag) : List V → Hp → VK → Prop := fun vs H Q => ∃ (a : Addr) (ns : List Int), vs = [V.ref a] ∧ SqL K H a (ns.map V.int) ∧
  ∀ (ns' : List Int) (p : Addr), ns'.Perm ns → ns'.Pairwise (· ≤ ·) → H p = none → Q (.ref p) (upd H p (.lst (ns'.map V.int)))
theorem cr_sortedN : CallR X (.builtin "sorted") (rSortedN X.K) := by
  intro pins s σ H vs us Q I r h
  obtain ⟨a, ns, rfl, hs, q⟩ := h
  rw [Vals.ref1 r]
  refine sorted_run (b := false) (kw := []) I hs (fun a => rfl) (args_sorted1 _) (fun a => args_list_sort _) fun ns' p h1 h2 h3 => q ns' p h1 h2 h3
theorem bi_sorted {K : PySem.W.Frag} : BiOk cl K .sorted (rSortedN K) := by
  intro c F ρ σ H vs ds Q0 Q R0 hv h q
  cases hv with
  | nil => exact h.elim
  | @cons v d vs ds h1 h2 =>
    cases h2 with
    | cons _ _ => cases d <;> exact h.elim
    | nil =>
      cases d with
      | lst l =>
        obtain ⟨ns, e, h⟩ := w1_of h
        obtain ⟨a, ws, rfl, hh, r⟩ := h1
        rw [intsOf_map e] at r
        rw [reps_ints r] at hh
        refine ⟨a, ns, rfl, .of hh, fun ms p m1 m2 hp => ?_⟩
        obtain ⟨R1, r1⟩ := R0.fresh (vs := ms.map V.int) (ds := ms.map D.int) hp (reps_of_ints ms)
        exact q _ _ F _ (h ms m1 m2) (Same.refl F) R1 r1
      | _ => exact h.elim
theorem bi_list {K : PySem.W.Frag} : BiOk cl K .list (fun xs H Q => ∃ p ys, xs = [.ref p] ∧ (SqL K H p ys ∨ SqT K H p ys) ∧ ∀ l, H l = none → Q (.ref l) (upd H l (.lst ys))) := by
  intro c F ρ σ H vs ds Q0 Q R0 hv h q
  cases hv with
  | nil => exact h.elim
  | @cons v d vs ds h1 h2 =>
    cases h2 with
    | cons _ _ => cases d <;> exact h.elim
    | nil =>
      cases d with
      | lst l =>
        obtain ⟨a, ws, rfl, hh, r⟩ := h1
        refine ⟨a, ws, rfl, .inl (.of hh), fun n hn => ?_⟩
        obtain ⟨R1, r1⟩ := R0.fresh hn r
        exact q _ _ F _ h (Same.refl F) R1 r1
      | tup l =>
        cases (show Rep cl K F v (.tup l) from h1) with
        | tup hh r =>
          refine ⟨_, _, rfl, .inr (.of (R0.fh _ _ hh)), fun n hn => ?_⟩
          obtain ⟨R1, r1⟩ := R0.fresh hn r
          exact q _ _ F _ h (Same.refl F) R1 r1
      | _ => exact h.elim
theorem bi_tuple {K : PySem.W.Frag} : BiOk cl K .tuple (fun xs H Q => ∃ p ys, xs = [.ref p] ∧ ((SqL K H p ys ∧ ∀ l, H l = none → Q (.ref l) (upd H l (.tup ys))) ∨ (SqT K H p ys ∧ Q (.ref p) H))) := by
  intro c F ρ σ H vs ds Q0 Q R0 hv h q
  cases hv with
  | nil => exact h.elim
  | @cons v d vs ds h1 h2 =>
    cases h2 with
    | cons _ _ => cases d <;> exact h.elim
    | nil =>
      cases d with
      | lst l =>
        obtain ⟨a, ws, rfl, hh, r⟩ := h1
        refine ⟨a, ws, rfl, .inl ⟨.of hh, fun n hn => ?_⟩⟩
        obtain ⟨m1, R1, r1⟩ := R0.tuple hn r
        exact q _ _ _ _ h m1 R1 r1
      | tup l =>
        have h1' : Rep cl K F v (.tup l) := h1
        cases h1' with
        | tup hh r => exact ⟨_, _, rfl, .inr ⟨.of (R0.fh _ _ hh), q _ _ F _ h (Same.refl F) R0 (Rep.tup hh r)⟩⟩
      | _ => exact h.elim
/-- the text of plain data -/
theorem rw_ok : ∀ (n : Nat) (d : D), D.pl n d = true → d.rok = true → d.py.showable = true ∧ d.py.shown.length ≤ d.rw
  | _, .non, _, _ => ⟨rfl, by decide +kernel⟩
  | _, .bl true, _, _ => ⟨rfl, by decide +kernel⟩
  | _, .bl false, _, _ => ⟨rfl, by decide +kernel⟩
  | _, .int i, _, h => by
    have h' : i.natAbs.log2 < 1900 := of_decide_eq_true h
    refine ⟨decide_eq_true (by omega), ?_⟩
    show (PyData.shown (.int i)).length ≤ _
    simp only [PyData.shown]
    rw [PySem.ofString_length]
    exact int_text_length_le (k := i.natAbs.log2 + 1) (Nat.succ_pos _) (Nat.lt_succ_self _)
  | _, .str s, _, _ => ⟨by simp only [D.py, PyData.showable], by simp only [D.py, PyData.shown]; exact Nat.le_refl _⟩
  | n, .ins _ _, h, _ => by cases n <;> cases h
  | n, .scr _, h, _ => by cases n <;> cases h
  | n, .dct _, h, _ => by cases n <;> cases h
  | 0, .tup _, h, _ => by cases h
  | 0, .lst _, h, _ => by cases h
  | n + 1, .tup ds, h, hk => by
    rw [py_tup]
    have go : ∀ ds : List D, ds.all (D.pl n) = true → D.rok.roks ds = true → PyData.showableAll (ds.map D.py) = true ∧ ((PyData.shownAll (ds.map D.py)).map (·.length)).sum + 2 * (PyData.shownAll (ds.map D.py)).length ≤ D.rw.rws ds := by
      intro ds
      induction ds with
      | nil => exact fun _ _ => ⟨rfl, Nat.le_refl _⟩
      | cons d ds ih =>
        intro h hk
        rw [List.all_cons, Bool.and_eq_true] at h
        obtain ⟨k1, k2⟩ := Bool.and_eq_true_iff.mp (show (d.rok && D.rok.roks ds) = true from hk)
        obtain ⟨a, b⟩ := rw_ok n d h.1 k1
        obtain ⟨a', b'⟩ := ih h.2 k2
        refine ⟨by rw [List.map_cons]; simp only [PyData.showableAll, a, a', Bool.and_self], ?_⟩
        rw [List.map_cons]
        simp only [PyData.shownAll, List.map_cons, List.sum_cons, List.length_cons]
        show _ ≤ d.rw + 2 + D.rw.rws ds
        omega
    obtain ⟨a, b⟩ := go ds h hk
    refine ⟨by simp only [PyData.showable]; exact a, ?_⟩
    simp only [PyData.shown]
    refine Nat.le_trans (tupleText_len_le _) ?_
    show _ ≤ D.rw.rws ds + 3
    omega
  | n + 1, .lst ds, h, hk => by
    rw [py_lst]
    have go : ∀ ds : List D, ds.all (D.pl n) = true → D.rok.roks ds = true → PyData.showableAll (ds.map D.py) = true ∧ ((PyData.shownAll (ds.map D.py)).map (·.length)).sum + 2 * (PyData.shownAll (ds.map D.py)).length ≤ D.rw.rws ds := by
      intro ds
      induction ds with
      | nil => exact fun _ _ => ⟨rfl, Nat.le_refl _⟩
      | cons d ds ih =>
        intro h hk
        rw [List.all_cons, Bool.and_eq_true] at h
        obtain ⟨k1, k2⟩ := Bool.and_eq_true_iff.mp (show (d.rok && D.rok.roks ds) = true from hk)
        obtain ⟨a, b⟩ := rw_ok n d h.1 k1
        obtain ⟨a', b'⟩ := ih h.2 k2
        refine ⟨by rw [List.map_cons]; simp only [PyData.showableAll, a, a', Bool.and_self], ?_⟩
        rw [List.map_cons]
        simp only [PyData.shownAll, List.map_cons, List.sum_cons, List.length_cons]
        show _ ≤ d.rw + 2 + D.rw.rws ds
        omega
    obtain ⟨a, b⟩ := go ds h hk
    refine ⟨by simp only [PyData.showable]; exact a, ?_⟩
    simp only [PyData.shown]
    refine Nat.le_trans (listText_len_le _) ?_
    show _ ≤ D.rw.rws ds + 3
    omega
theorem pl_noDict : ∀ (n : Nat) (d : D), D.pl n d = true → d.py.hasDict = false := fun n d h => PyData.hasDict_of_canLay _ (pl_lay n d h).1
def rRepr (K : PySem.W.Frag) : List V → Hp → VK → Prop := fun xs H Q => ∃ x d, xs = [x] ∧ Dp K H x d ∧ d.showable = true ∧ d.hasDict = false ∧ d.depth ≤ 60 ∧ d.shown.length ≤ sizeLine ∧ Q (.str d.shown) H
theorem call_reprD (hg : X.A.guards = some []) (hu : X.A.units + 65 < cLine) : CallR X (.builtin "repr") (rRepr X.K) := by
  intro pins s σ H xs us Q I r h
  obtain ⟨x, d, rfl, dp, hs, hd, hp, hz, q⟩ := h
  cases r with
  | cons r1 r2 =>
    cases r2
    cases dp with
    | non =>
      cases r1
      simp only [PyData.shown] at q
      exact PySem.P.repr_of_none ⟨.str _, H, I.tok _, ⟨_, rfl⟩, q⟩
    | bl b =>
      cases r1
      cases b with
      | true =>
        simp only [PyData.shown] at q
        exact PySem.P.repr_of_bool ⟨.str _, H, I.tok _, ⟨s.toks, rfl⟩, q⟩
      | false =>
        simp only [PyData.shown] at q
        exact PySem.P.repr_of_bool ⟨.str _, H, I.tok _, ⟨s.toks, rfl⟩, q⟩
    | int i =>
      obtain ⟨t, rfl⟩ := r1
      simp only [PyData.shown] at q
      exact PySem.P.repr_of_int (of_decide_eq_true hs) ⟨.str _, H, I.tok _, ⟨_, rfl⟩, q⟩
    | str y =>
      obtain ⟨t, rfl⟩ := r1
      simp only [PyData.shown] at q hz
      exact PySem.P.repr_of_str ⟨.str _, H, I.tok _, ⟨_, rfl⟩, q⟩ hz
    | lst h1 h2 =>
      have dp' := Dp.lst h1 h2
      obtain ⟨as, rd⟩ := Dp.reads I _ _ _ dp' r1
      cases r1
      exact PySem.repr_of_reads' rd hs (fun z => by rw [hd] at z; cases z) hg (by omega) (fun _ _ e => e) (fun h' u tk hk => ⟨.str _, H, I.kept hk, ⟨_, rfl⟩, q⟩) hz
    | tup h1 h2 =>
      have dp' := Dp.tup h1 h2
      obtain ⟨as, rd⟩ := Dp.reads I _ _ _ dp' r1
      cases r1
      exact PySem.repr_of_reads' rd hs (fun z => by rw [hd] at z; cases z) hg (by omega) (fun _ _ e => e) (fun h' u tk hk => ⟨.str _, H, I.kept hk, ⟨_, rfl⟩, q⟩) hz
theorem bi_repr {K : PySem.W.Frag} : BiOk cl K .repr (rRepr K) := by
  intro c F ρ σ H vs ds Q0 Q R0 hv h q
  cases hv with
  | nil => exact h.elim
  | @cons v d vs ds h1 h2 =>
    cases h2 with
    | cons _ _ => cases d <;> exact h.elim
    | nil =>
      have h' : D.pl 20 d = true ∧ d.rok = true ∧ d.rw ≤ line ∧ Q0 (.sh (.str d.py.shown)) := by
        cases d <;> exact h
      obtain ⟨p1, p2, p3, z⟩ := h'
      obtain ⟨a, b⟩ := rw_ok 20 d p1 p2
      have dl := (pl_lay 20 d p1).2
      exact ⟨v, d.py, rfl, Vw.dp R0.fh p1 h1, a, pl_noDict 20 d p1, by omega, by rw [sizeLine_line]; omega, q _ _ F H z (Same.refl F) R0 (.str _)⟩
theorem e_biB {f : Bi} {id : String} {x : Str} {r : List V → Hp → VK → Prop} {e : Expr} {es : List Expr} {ee : Es} (hc : CallR X (.builtin id) r) (hr : BiOk cl X.K f r) (hg : Gl X x) (hm : X.mg x = none) (hv : bootBuiltins x = some (.builtin id)) (ha : PA X (e :: es) (tEs Γ cl X.K W ee))
    (hn : x ≠ "__name__") (hdb : (x == ("__debug__" : Str)) = false) (he : starEach (e :: es) X.env = (false, eval e X.env) :: starEach es X.env) (hpl : (backTo pos (starEach es X.env)).any (·.1) = false) : PE X (.Call (.Name x p) (e :: es) [] pos) (tE Γ cl X.K W (.bi f ee)) := by
  refine PE.weak (pe_callB hc hg hm hv ha hn hdb he hpl) fun σ H Q ⟨c, F, ρ, Q0, X0, R0, h, q, hx⟩ => ?_
  refine oneA R0 h hx fun rs ρ1 F1 vs H1 z m R1 hs => ?_
  obtain ⟨ds, e1, z⟩ := w1_of z
  exact hr c F1 ρ1 σ H1 vs ds _ Q R1 (hs.vws R1 e1) z fun res v' F' H' y m' R' r' => q _ _ F' v' H' y (m.trans m') R' r'
theorem e_biT {f : Bi} {id : String} {x : Str} {r : List V → Hp → VK → Prop} {e : Expr} {es : List Expr} {ee : Es} (hc : CallR X (.type id) r) (hr : BiOk cl X.K f r) (hg : Gl X x) (hm : X.mg x = none) (hv : bootBuiltins x = some (.type id)) (ha : PA X (e :: es) (tEs Γ cl X.K W ee))
    (hn : x ≠ "__name__") (hdb : (x == ("__debug__" : Str)) = false) (he : starEach (e :: es) X.env = (false, eval e X.env) :: starEach es X.env) (hpl : (backTo pos (starEach es X.env)).any (·.1) = false) : PE X (.Call (.Name x p) (e :: es) [] pos) (tE Γ cl X.K W (.bi f ee)) := by
  refine PE.weak (pe_callTy hc hg hm hv ha hn hdb he hpl) fun σ H Q ⟨c, F, ρ, Q0, X0, R0, h, q, hx⟩ => ?_
  refine oneA R0 h hx fun rs ρ1 F1 vs H1 z m R1 hs => ?_
  obtain ⟨ds, e1, z⟩ := w1_of z
  exact hr c F1 ρ1 σ H1 vs ds _ Q R1 (hs.vws R1 e1) z fun res v' F' H' y m' R' r' => q _ _ F' v' H' y (m.trans m') R' r'
theorem CallR.or {f : Value} {r1 r2 : List V → Hp → VK → Prop} (h1 : CallR X f r1) (h2 : CallR X f r2) : CallR X f fun xs H Q => r1 xs H Q ∨ r2 xs H Q := by
  intro pins s σ H xs us Q I r h
  rcases h with h | h
  · exact h1 pins s σ H xs us Q I r h
  · exact h2 pins s σ H xs us Q I r h
/-- the built-in functions by their names -/
def biN : Bi → Str
  | .len => "len" | .abs => "abs" | .int => "int" | .list => "list" | .tuple => "tuple" | .repr => "repr" | .sorted => "sorted" | .set => "set" | .min => "min" | .max => "max" | .sum => "sum"
/-- those that have a rule; repr: where no repr is under way -/
def biG (g : Bool) : Bi → Bool
  | .len => true | .abs => true | .int => true | .list => true | .tuple => true | .repr => g | .min => true | .max => true | .sum => true | .sorted => true
  | _ => false
theorem e_bi {f : Bi} {e : Expr} {es : List Expr} {ee : Es} (G : Gd X Γ cl g k W) (hf : biG g f = true) (hg : Gl X (biN f)) (ha : PA X (e :: es) (tEs Γ cl X.K W ee))
    (he : starEach (e :: es) X.env = (false, eval e X.env) :: starEach es X.env) (hpl : (backTo pos (starEach es X.env)).any (·.1) = false) : PE X (.Call (.Name (biN f) p) (e :: es) [] pos) (tE Γ cl X.K W (.bi f ee)) := by
  have bn : ∀ x, x ∈ bnames → X.mg x = none := G.bn
  cases f with
  | len => exact e_biB call_len_seq bi_len hg (bn _ (by decide +kernel)) (by decide +kernel) ha (by decide +kernel) (by decide +kernel) he hpl
  | abs => exact e_biB call_abs bi_abs hg (bn _ (by decide +kernel)) (by decide +kernel) ha (by decide +kernel) (by decide +kernel) he hpl
  | int => exact e_biT call_int1 bi_int hg (bn _ (by decide +kernel)) (by decide +kernel) ha (by decide +kernel) (by decide +kernel) he hpl
  | list => exact e_biT call_list_of bi_list hg (bn _ (by decide +kernel)) (by decide +kernel) ha (by decide +kernel) (by decide +kernel) he hpl
  | tuple => exact e_biT call_tuple_of bi_tuple hg (bn _ (by decide +kernel)) (by decide +kernel) ha (by decide +kernel) (by decide +kernel) he hpl
  | repr => exact e_biB (call_reprD (G.gd hf) G.units) bi_repr hg (bn _ (by decide +kernel)) (by decide +kernel) ha (by decide +kernel) (by decide +kernel) he hpl
  | min => exact e_biB (CallR.or (call_min2 G.calm) (cr_min G.calm)) bi_min hg (bn _ (by decide +kernel)) (by decide +kernel) ha (by decide +kernel) (by decide +kernel) he hpl
  | max => exact e_biB (CallR.or (call_max2 G.calm) (cr_max G.calm)) bi_max hg (bn _ (by decide +kernel)) (by decide +kernel) ha (by decide +kernel) (by decide +kernel) he hpl
  | sum => exact e_biB (cr_sum G.calm) bi_sum hg (bn _ (by decide +kernel)) (by decide +kernel) ha (by decide +kernel) (by decide +kernel) he hpl
  | sorted => exact e_biB cr_sortedN bi_sorted hg (bn _ (by decide +kernel)) (by decide +kernel) ha (by decide +kernel) (by decide +kernel) he hpl
  | _ => cases hf
end
end M
set_option linter.all false
set_option Elab.async false
set_option maxRecDepth 10000
/-! MiniH: len and isinstance of own things; what is walked. -/
namespace M
open PySem PySem.Spec PyProof.Rows L2
section
variable {X : Cx} {Γ : Tb} {cl : Str → Addr → Prop} {W : WX} {c : Ct} {F F' H H' : Hp} {ρ : En} {σ : L2.St} {v u : V} {pos p apos : Pos} {g : Bool} {k : Nat} {s : Shared} {pins : List (Addr × Obj)}
/-- an instance's list -/
theorem ins_lst {K : PySem.W.Frag} {n f : Str} {es : List (Str × D)} {ds : List D} (h : Vw cl K F H v (.ins n es)) (e : es.lookup f = some (.lst ds)) : ∃ a C dx fs l vs, v = .ref a ∧ cl n C ∧ F a = some (.ins C dx fs) ∧ fs.lookup f = some (.ref l) ∧ F l = some (.lst vs) ∧ Reps cl K F vs ds ∧ RepF cl K F fs es := by
  obtain ⟨a, C, dx, fs, rfl, hc, ha, r⟩ := vw_ins h
  obtain ⟨w, ew, rw'⟩ := r.look e
  cases rw' with
  | lst h1 h2 => exact ⟨a, C, dx, fs, _, _, rfl, hc, ha, ew, h1, h2, r⟩
/-- a callee without exceptions has run -/
theorem run_in {A1 : Around} {f : Addr} {args : Args} {Q : VK} {T : Value → Shared → Prop} {EE : Value → Shared → Prop} {vs : List Value} (hf : args = ⟨vs, []⟩) (hr : codeAny (model X.prog X.w) A1 (.call (.ref f) args) (CR (L2.CX X.prog X.w) X.stack X.prog X.w H s Q fun _ _ _ => False) s)
    (I : Inv X pins σ H s) (hq : ∀ w s' x H', Un (frs X.stack) [] H H' s.heap s'.heap → Inv X pins σ H' s' → RelV x w → Q x H' → T w s') : wpAny (model X.prog X.w) A1 (call (.ref f) vs) T EE s := by
  subst hf
  refine wpAny_call (codeAny_mono hr fun res s' z => ?_)
  cases res with
  | error e =>
    obtain ⟨_, _, _, _, _, _, _, _, _, _, _, _, no⟩ := z
    exact no.elim
  | ok fl =>
    cases fl with
    | ret w =>
      have z1 := z
      obtain ⟨x, H', os, bare, un, hok, r, q⟩ := z1
      have I2 := I.call' os un hok bare fun b z => absurd z (by simp)
      exact hq w s' x H' un I2 r q
    | next => exact z.elim
    | brk => exact z.elim
    | cont => exact z.elim
theorem env_in {A1 : Around} (I : Inv X pins σ H s) (hfr : A1.frames = X.A.frames) : Env0 X.prog X.w X.K X.mg X.base A1 X.stack s H := by
  have e0 := I.env0
  exact ⟨hfr.trans e0.frames, e0.mod, e0.bs, e0.bsz, e0.funs, e0.frf, e0.hok, e0.bare⟩
theorem bind1 {fd : FuncData} {ps : List Str} {a : Addr} (bN : Binds X.K fd ps []) (I : Inv X pins σ H s) (h : ps.length = 1) : BindsTo s fd ⟨[.ref a], []⟩ (ps.zip [Value.ref a]) := by
  have b := bN s [.ref a] I.kIn h.symm
  rw [List.append_nil] at b
  exact b
def rLenO (Γ : Tb) (cl : Str → Addr → Prop) (K : PySem.W.Frag) : List V → Hp → VK → Prop := fun xs H Q => ∃ n f a C dx fs l vs, xs = [V.ref a] ∧ cl n C ∧ Γ.itf n = some f ∧ H a = some (.ins C dx fs) ∧ fs.lookup f = some (.ref l) ∧ SqL K H l vs ∧ Q (.int vs.length) H
theorem call_lenO (G : Gd X Γ cl g k W) : CallR X (.builtin "len") (rLenO Γ cl X.K) := by
  intro pins s σ H xs us Q I r h
  obtain ⟨n, f, a, C, dx, fs, l, vs, rfl, hc, hf, ha, hl, hq, q⟩ := h
  obtain ⟨w, rfl, rw'⟩ := vals1 r
  obtain rfl : w = Value.ref a := rw'
  obtain ⟨na, fi, fd, ps, me, bi, FN⟩ := G.itl n C f hc hf
  obtain ⟨mA, O, _⟩ := ins_get I.hok ha
  obtain ⟨od, J, _⟩ := O.look
  obtain ⟨its, rv, pl, hz⟩ := I.list hq
  have hn := line63
  refine Calls.call_function_entry kind_len plain_len entry_len (args_len1 _) ?_
  unfold Builtin.«len»
  refine wpAny_bind (m := oneArg "len" _) (wpAny_pure ?_)
  refine wpAny_bind (m := callSpecial? (.ref a) (Str.ofString "__len__")) (PySem.W.special_fn (name := Str.ofString "__len__") I.kIn J me.at_ (beq_iff_eq.mp me.fn) ?_)
  have sp : spLn X.K f [.ref a] H (fun x H' => x = V.int (vs.length : Nat) ∧ H' = H) fun _ _ _ => False := ⟨a, C, dx, fs, l, vs, ⟨G.cls n C hc, na⟩, rfl, ha, hl, hq, rfl, rfl⟩
  refine run_in (T := fun v => _) rfl (FN.run X.A.in1 X.stack s H ⟨[.ref a], []⟩ [.ref a] [.ref a] _ _ G.rm1.in1 (env_in I rfl) (bind1 bi I (FN.len _ _ _ _ sp).symm) (.cons rfl .nil) sp) I fun w s' x H' un I' rx z => ?_
  obtain ⟨rfl, rfl⟩ := z
  obtain ⟨t, rfl⟩ := rx
  have hl2 := rv.length
  refine wpAny_bind (wpAny_holding (wpAny_pure ?_))
  refine wpAny_bind (wpAny_letGo ?_)
  show wpAny _ _ (if ((vs.length : Nat) : Int) < 0 then _ else _) _ _ _
  rw [if_neg (by omega)]
  show wpAny _ _ (if ((vs.length : Nat) : Int) ≥ 2 ^ 63 then _ else _) _ _ _
  rw [if_neg (by omega)]
  exact wpAny_bind (wpAny_mkInt (wpAny_pure ⟨_, rfl, .int vs.length, _, I'.tok _, ⟨_, rfl⟩, q⟩))
/-- len(o), o an own instance -/
theorem e_leni {e : Expr} {ee : E} (G : Gd X Γ cl g k W) (hg : Gl X "len") (he : PE X e (tE Γ cl X.K W ee)) (hs : starEach [e] X.env = (false, eval e X.env) :: starEach [] X.env) : PE X (.Call (.Name "len" p) [e] [] pos) (tE Γ cl X.K W (.leni ee)) := by
  refine PE.weak (pe_callB (call_lenO G) hg (G.bn _ (by decide +kernel)) (by decide +kernel) (pa_cons he pa_nil hs) (by decide +kernel) (by decide +kernel) hs rfl) fun σ H Q ⟨c, F, ρ, Q0, X0, R0, h, q, hx⟩ => ?_
  refine oneE R0 h hx fun ro ρ1 F1 v H1 z m1 R1 r1 => ?_
  obtain ⟨n, es, e1, z⟩ := wN_of z
  obtain ⟨f, ef, z⟩ := w1_of z
  obtain ⟨ds, ed, z⟩ := wL_of z
  obtain ⟨a, C, dx, fs, l, vs, rfl, hc, ha, hl, hll, rr, _⟩ := ins_lst (r1.vw R1 e1) ed
  refine ⟨n, f, a, C, dx, fs, l, vs, rfl, hc, ef, R1.fh _ _ ha, hl, .of (R1.fh _ _ hll), ?_⟩
  rw [rr.len]
  exact q _ _ F1 _ H1 z m1 R1 (.int _)
/-- isinstance(o, C), both own -/
theorem e_isi {e : Expr} {ee : E} {x : Str} {p2 : Pos} (G : Gd X Γ cl g k W) (hg : Gl X "isinstance") (hx : Gl X x) (hdb : (x == ("__debug__" : Str)) = false) (he : PE X e (tE Γ cl X.K W ee)) (hs : starEach (e :: [.Name x p2]) X.env = (false, eval e X.env) :: starEach [.Name x p2] X.env) (hi : Γ.isn x = true) :
    PE X (.Call (.Name "isinstance" p) [e, .Name x p2] [] pos) (tE Γ cl X.K W (.isi ee x)) := by
  obtain ⟨C, hc, hm, hk, ki⟩ := G.isn x hi
  refine PE.weak (pe_callB call_isi hg (G.bn _ (by decide +kernel)) (by decide +kernel) (pa_cons he (pa_cons (pe_glob (v := .ref C) hx hm rfl hdb) pa_nil rfl) hs) (by decide +kernel) (by decide +kernel) hs rfl) fun σ H Q ⟨c, F, ρ, Q0, X0, R0, h, q, hx⟩ => ?_
  refine oneE R0 h hx fun ro ρ1 F1 v H1 z m1 R1 r1 => ?_
  obtain ⟨n, es, e1, _, z⟩ := wN_of z
  obtain ⟨a, C', dx, fs, rfl, hc', ha, rf⟩ := vw_ins (r1.vw R1 e1)
  have i := G.isk n C' hc'
  exact ⟨_, _, _, _, _, rfl, .own C, .base (.ins (R1.fh _ _ ha) (G.cls n C' hc') i.ha i.hn i.htk i.hm), ki n C' hc', q _ _ F1 _ H1 z m1 R1 (.bl _)⟩
end
end M
set_option linter.all false
set_option Elab.async false
set_option maxRecDepth 10000
/-! MiniI: what is walked by a for or a comprehension. -/
namespace M
open PySem PySem.Spec PyProof.Rows L2
/-- what c keeps, c1 keeps -/
def CLe (c c1 : Ct) : Prop := ∀ a o, c.B a = some o → (∀ j, (j, a) ∉ c.ios) → c1.H0 a = some o ∧ ∀ j, (j, a) ∉ c1.ios
/-- J gives ds, whatever happens meanwhile -/
structure Walk (cl : Str → Addr → Prop) (K : PySem.W.Frag) (c : Ct) (F0 : Hp) (ds : List D) (J : It) : Prop where
  go : ∀ c1 F ρ σ H i d, CLe c c1 → Same F0 F → Rl cl K c1 F ρ σ H → ds[i]? = some d → J.go i H
  stop : ∀ c1 F ρ σ H, CLe c c1 → Same F0 F → Rl cl K c1 F ρ σ H → J.stop ds.length H
  yld : ∀ c1 F ρ σ H i d x H', CLe c c1 → Same F0 F → Rl cl K c1 F ρ σ H → ds[i]? = some d → J.yld i H x H' → ∃ F', Same F F' ∧ Rl cl K c1 F' ρ σ H' ∧ Rep cl K F' x d
def tI' (Γ : Tb) (cl : Str → Addr → Prop) (K : PySem.W.Frag) (W : WX) (it : I) : TI := fun σ H R => ∃ (c : Ct) (F : Hp) (ρ : En) (Q0 : List D → En → Prop) (X0 : QX), Rl cl K c F ρ σ H ∧ dI Γ it ρ Q0 X0 ∧
  (∀ ds ρ' F' J H', Q0 ds ρ' → Same F F' → Rl cl K c F' ρ' σ H' → Walk cl K c F' ds J → R J H') ∧ ExL cl K c F σ W X0
/-- where the items stand -/
inductive Src (Γ : Tb) (cl : Str → Addr → Prop) (K : PySem.W.Frag) (c : Ct) (F : Hp) : V → List D → Prop
  | lst {a vs ds} : (F a = some (.lst vs) ∨ (c.B a = some (.lst vs) ∧ ∀ j, (j, a) ∉ c.ios)) → Reps cl K F vs ds → Src Γ cl K c F (.ref a) ds
  | tup {a vs ds} : F a = some (.tup vs) → Reps cl K F vs ds → Src Γ cl K c F (.ref a) ds
  | ins {a n f C dx fs l vs ds} : F a = some (.ins C dx fs) → cl n C → Γ.itf n = some f → fs.lookup f = some (.ref l) → F l = some (.lst vs) → Reps cl K F vs ds → Src Γ cl K c F (.ref a) ds
section
variable {X : Cx} {Γ : Tb} {cl : Str → Addr → Prop} {W : WX} {c : Ct} {F F' H H' : Hp} {ρ : En} {σ : L2.St} {v u : V} {pos p apos : Pos} {g : Bool} {k : Nat} {s : Shared} {pins : List (Addr × Obj)} {tg : Expr}
theorem src_sh {K : PySem.W.Frag} {d : D} {Q : List D → En → Prop} (R0 : Rl cl K c F ρ σ H) (rr : Rep cl K F v d) (h : itemsR Γ ρ (.sh d) Q) : ∃ ds, Src Γ cl K c F v ds ∧ Q ds ρ := by
  cases d with
  | lst l =>
    cases rr with
    | lst h1 h2 => exact ⟨l, .lst (.inl h1) h2, h⟩
  | tup l =>
    cases rr with
    | tup h1 h2 => exact ⟨l, .tup h1 h2, h⟩
  | ins n es =>
    obtain ⟨f, ef, z⟩ := w1_of (show w1 (Γ.itf n) fun f => wL (es.lookup f) fun ds => Q ds ρ from h)
    obtain ⟨ds, ed, z⟩ := wL_of z
    obtain ⟨a, C, dx, fs, l, vs, rfl, hc, ha, hl, hll, rs, _⟩ := ins_lst (H := H) (show Vw cl K F H v (.ins n es) from rr) ed
    exact ⟨ds, .ins ha hc ef hl hll rs, z⟩
  | _ => exact h.elim
theorem src_of {K : PySem.W.Frag} {r : R} {Q : List D → En → Prop} (R0 : Rl cl K c F ρ σ H) (rr : ResR cl K c F ρ σ H v r) (h : itemsR Γ ρ r Q) : ∃ F' ρ' ds, Same F F' ∧ Rl cl K c F' ρ' σ H ∧ Src Γ cl K c F' v ds ∧ Q ds ρ' := by
  cases r with
  | sh d =>
    obtain ⟨ds, s, q⟩ := src_sh R0 rr h
    exact ⟨F, ρ, ds, Same.refl F, R0, s, q⟩
  | fr l =>
    obtain ⟨F', m, R1, r1⟩ := rr.keep R0 (show keep ρ (.fr l) = some (.lst l, ρ) from rfl)
    cases r1 with
    | lst h1 h2 => exact ⟨F', ρ, l, m, R1, .lst (.inl h1) h2, h⟩
  | fd l => exact h.elim
  | br i =>
    have h' : (match ρ[i]? with
      | some (.bo ds) => Q ds ρ
      | some (.ow ds) => Q ds (ρ.set i (.sh (.lst ds)))
      | some (.sh (.lst ds)) => Q ds ρ
      | _ => False) := h
    cases es : ρ[i]? with
    | none => simp only [es] at h'
    | some s =>
      have sl := R0.sl i s es
      have rv : σ[i]? = some (some v) := rr
      cases s with
      | bo ds =>
        simp only [es] at h'
        obtain ⟨a, vs, e, h0, hn, rs⟩ := sl
        rw [rv] at e
        cases e
        exact ⟨F, ρ, ds, Same.refl F, R0, (.lst (.inr ⟨h0, hn.1⟩) rs), h'⟩
      | ow ds =>
        simp only [es] at h'
        have kk : keep ρ (.br i) = some (.lst ds, ρ.set i (.sh (.lst ds))) := by
          show (match ρ[i]? with
            | some (.sh d) => some (d, ρ)
            | some (.ow ds) => some (.lst ds, ρ.set i (.sh (.lst ds)))
            | some (.dc kvs) => some (.dct kvs, ρ.set i (.sh (.dct kvs)))
            | _ => none) = _
          rw [es]
        obtain ⟨F', m, R1, r1⟩ := rr.keep R0 kk
        cases r1 with
        | lst h1 h2 => exact ⟨F', _, ds, m, R1, .lst (.inl h1) h2, h'⟩
      | sh d =>
        cases d with
        | lst l =>
          simp only [es] at h'
          obtain ⟨x, e, r1⟩ := sl
          rw [rv] at e
          cases e
          cases r1 with
          | lst h1 h2 => exact ⟨F, ρ, l, Same.refl F, R0, .lst (.inl h1) h2, h'⟩
        | _ => simp only [es] at h'
      | _ => simp only [es] at h'
theorem Src.mono {K : PySem.W.Frag} {ds : List D} (h : Src Γ cl K c F v ds) (m : Same F F') : Src Γ cl K c F' v ds := by
  cases h with
  | lst h1 h2 => exact .lst (h1.imp (m _ _) id) (h2.mono m)
  | tup h1 h2 => exact .tup (m _ _ h1) (h2.mono m)
  | ins h1 h2 h3 h4 h5 h6 => exact .ins (m _ _ h1) h2 h3 h4 (m _ _ h5) (h6.mono m)
theorem at_list {K : PySem.W.Frag} {a : Addr} {vs : List V} (R0 : Rl cl K c F ρ σ H) (h : F a = some (.lst vs) ∨ (c.B a = some (.lst vs) ∧ ∀ j, (j, a) ∉ c.ios)) : H a = some (.lst vs) := by
  rcases h with h | ⟨h, n⟩
  · exact R0.fh _ _ h
  · exact R0.kp _ _ (c.gB _ _ h) n
theorem at_list1 {K : PySem.W.Frag} {c1 : Ct} {a : Addr} {vs : List V} (le : CLe c c1) (m : Same F F') (R0 : Rl cl K c1 F' ρ σ H) (h : F a = some (.lst vs) ∨ (c.B a = some (.lst vs) ∧ ∀ j, (j, a) ∉ c.ios)) : H a = some (.lst vs) :=
  h.elim (fun h => R0.fh _ _ (m _ _ h)) fun z => let w := le _ _ z.1 z.2; R0.kp _ _ w.1 w.2
theorem walk_list {K : PySem.W.Frag} {a : Addr} {vs : List V} {ds : List D} (h : F a = some (.lst vs) ∨ (c.B a = some (.lst vs) ∧ ∀ j, (j, a) ∉ c.ios)) (r : Reps cl K F vs ds) : Walk cl K c F ds (Itl K a) where
  go := fun c1 F1 ρ σ H i d le m R e => by
    obtain ⟨v, ev, _⟩ := r.get e
    exact ⟨vs, v, .of (at_list1 le m R h), ev⟩
  stop := fun c1 F1 ρ σ H le m R => ⟨vs, .of (at_list1 le m R h), by rw [r.len]; exact Nat.le_refl _⟩
  yld := fun c1 F1 ρ σ H i d x H' le m R e y => by
    obtain ⟨rfl, y⟩ := y
    have y1 := y vs (.of (at_list1 le m R h))
    obtain ⟨v, ev, rv⟩ := r.get e
    rw [y1] at ev
    cases ev
    exact ⟨F1, Same.refl F1, R, rv.mono m⟩
theorem walk_tup {K : PySem.W.Frag} {a : Addr} {vs : List V} {ds : List D} (h : F a = some (.tup vs)) (r : Reps cl K F vs ds) : Walk cl K c F ds (Itt K a) where
  go := fun c1 F1 ρ σ H i d le m R e => by
    obtain ⟨v, ev, _⟩ := r.get e
    exact ⟨vs, v, .of (R.fh _ _ (m _ _ h)), ev⟩
  stop := fun c1 F1 ρ σ H le m R => ⟨vs, .of (R.fh _ _ (m _ _ h)), by rw [r.len]; exact Nat.le_refl _⟩
  yld := fun c1 F1 ρ σ H i d x H' le m R e y => by
    obtain ⟨rfl, y⟩ := y
    have y1 := y vs (.of (R.fh _ _ (m _ _ h)))
    obtain ⟨v, ev, rv⟩ := r.get e
    rw [y1] at ev
    cases ev
    exact ⟨F1, Same.refl F1, R, rv.mono m⟩
theorem getE {ds : List D} {i : Nat} {d : D} (e : (enumD ds)[i]? = some d) : ∃ x, ds[i]? = some x ∧ d = .tup [.int (i : Int), x] := by
  unfold enumD at e
  rw [List.getElem?_zipWith] at e
  cases h1 : ds[i]? with
  | none => simp [h1] at e
  | some x =>
    have hl : i < ds.length := (List.getElem?_eq_some_iff.mp h1).1
    rw [List.getElem?_range hl, h1] at e
    exact ⟨x, rfl, (Option.some.inj e).symm⟩
theorem enumD_len {ds : List D} : (enumD ds).length = ds.length := by
  unfold enumD
  rw [List.length_zipWith, List.length_range, Nat.min_self]
theorem walk_enum {K : PySem.W.Frag} {a : Addr} {vs : List V} {ds : List D} (h : F a = some (.lst vs) ∨ (c.B a = some (.lst vs) ∧ ∀ j, (j, a) ∉ c.ios)) (r : Reps cl K F vs ds) : Walk cl K c F (enumD ds) (Ite K a) where
  go := fun c1 F1 ρ σ H i d le m R e => by
    obtain ⟨x, ex, _⟩ := getE e
    obtain ⟨v, ev, _⟩ := r.get ex
    exact ⟨vs, v, .of (at_list1 le m R h), ev⟩
  stop := fun c1 F1 ρ σ H le m R => ⟨vs, .of (at_list1 le m R h), by rw [r.len, enumD_len]; exact Nat.le_refl _⟩
  yld := fun c1 F1 ρ σ H i d x H' le m R e y => by
    obtain ⟨T, w, rfl, hT, rfl, y⟩ := y
    have y1 := y vs (.of (at_list1 le m R h))
    obtain ⟨x, ex, rfl⟩ := getE e
    obtain ⟨v, ev, rv⟩ := r.get ex
    rw [y1] at ev
    cases ev
    obtain ⟨m1, R1, r1⟩ := R.tuple hT (.cons (.int (i : Nat)) (.cons (rv.mono m) .nil))
    exact ⟨_, m1, R1, r1⟩
theorem getZ {as bs : List D} {i : Nat} {d : D} (e : (zipD as bs)[i]? = some d) : ∃ x y, as[i]? = some x ∧ bs[i]? = some y ∧ d = .tup [x, y] := by
  unfold zipD at e
  rw [List.getElem?_zipWith] at e
  cases h1 : as[i]? with
  | none => simp [h1] at e
  | some x =>
    cases h2 : bs[i]? with
    | none => simp [h1, h2] at e
    | some y =>
      rw [h1, h2] at e
      exact ⟨x, y, rfl, rfl, (Option.some.inj e).symm⟩
theorem zipD_len {as bs : List D} (h : as.length = bs.length) : (zipD as bs).length = as.length := by
  unfold zipD
  rw [List.length_zipWith, h, Nat.min_self]
theorem walk_zip {K : PySem.W.Frag} {a b : Addr} {vs ws : List V} {ds es : List D} (h : F a = some (.lst vs) ∨ (c.B a = some (.lst vs) ∧ ∀ j, (j, a) ∉ c.ios)) (r : Reps cl K F vs ds)
    (h2 : F b = some (.lst ws) ∨ (c.B b = some (.lst ws) ∧ ∀ j, (j, b) ∉ c.ios)) (r2 : Reps cl K F ws es) (hl : ds.length = es.length) : Walk cl K c F (zipD ds es) (Itz K a b) where
  go := fun c1 F1 ρ σ H i d le m R e => by
    obtain ⟨x, y, ex, ey, _⟩ := getZ e
    obtain ⟨v, ev, _⟩ := r.get ex
    obtain ⟨w, ew, _⟩ := r2.get ey
    exact ⟨vs, ws, v, w, .of (at_list1 le m R h), .of (at_list1 le m R h2), ev, ew⟩
  stop := fun c1 F1 ρ σ H le m R => ⟨vs, ws, .of (at_list1 le m R h), .of (at_list1 le m R h2), .inl (by rw [r.len, zipD_len hl]; exact Nat.le_refl _)⟩
  yld := fun c1 F1 ρ σ H i d x H' le m R e y => by
    obtain ⟨T, w, z, rfl, hT, rfl, y, y'⟩ := y
    have y1 := y vs (.of (at_list1 le m R h))
    have y2 := y' ws (.of (at_list1 le m R h2))
    obtain ⟨x, x', ex, ex', rfl⟩ := getZ e
    obtain ⟨v, ev, rv⟩ := r.get ex
    obtain ⟨v', ev', rv'⟩ := r2.get ex'
    rw [y1] at ev
    rw [y2] at ev'
    cases ev
    cases ev'
    obtain ⟨m1, R1, r1⟩ := R.tuple hT (.cons (rv.mono m) (.cons (rv'.mono m) .nil))
    exact ⟨_, m1, R1, r1⟩
theorem rngD_len {lo hi : Int} : (rngD lo hi).length = (hi - lo).toNat := by
  unfold rngD
  rw [List.length_map, List.length_range]
theorem getR {lo hi : Int} {i : Nat} {d : D} (e : (rngD lo hi)[i]? = some d) : i < (hi - lo).toNat ∧ d = .int (lo + (i : Int)) := by
  have hl := (List.getElem?_eq_some_iff.mp e).1
  rw [rngD_len] at hl
  unfold rngD at e
  rw [List.getElem?_map, List.getElem?_range hl] at e
  exact ⟨hl, (Option.some.inj e).symm⟩
theorem walk_rng {K : PySem.W.Frag} {lo hi : Int} : Walk cl K c F (rngD lo hi) (Itr lo (hi - lo).toNat) where
  go := fun c1 F1 ρ σ H i d le m R e => (getR e).1
  stop := fun c1 F1 ρ σ H le m R => by
    show (hi - lo).toNat ≤ _
    rw [rngD_len]
    exact Nat.le_refl _
  yld := fun c1 F1 ρ σ H i d x H' le m R e y => by
    obtain ⟨rfl, rfl⟩ := y
    obtain ⟨_, rfl⟩ := getR e
    exact ⟨F1, Same.refl F1, R, .int _⟩
/-- range(..) -/
theorem vals1_of {r : R} {ds : List D} (h : vals ρ [r] = some ds) : ∃ d, ds = [d] ∧ val ρ r = some d := by
  unfold vals at h
  split at h
  · rename_i d e
    cases h
    exact ⟨d, rfl, e⟩
  · cases h
theorem vals2_of {r r' : R} {ds : List D} (h : vals ρ [r, r'] = some ds) : ∃ d d', ds = [d, d'] ∧ val ρ r = some d ∧ val ρ r' = some d' := by
  unfold vals at h
  split at h
  · rename_i d e
    obtain ⟨es, h2, rfl⟩ := Option.map_eq_some_iff.mp h
    obtain ⟨d', rfl, e2⟩ := vals1_of h2
    exact ⟨d, d', rfl, e, e2⟩
  · cases h
theorem i_rng1 {a : Expr} {ee : E} (G : Gd X Γ cl g k W) (hg : Gl X "range") (ha : PE X a (tE Γ cl X.K W ee)) (hs : starEach [a] X.env = [(false, eval a X.env)]) : PI X tg (.Call (.Name "range" p) [a] [] pos) (tI' Γ cl X.K W (.rng (.cons ee .nil))) := by
  refine ⟨fun pins s σ H R I ⟨c, F, ρ, Q0, X0, R0, h, q, hx⟩ => (pi_range1 hg (G.bn _ (by decide +kernel)) (pa_cons ha pa_nil hs) hs).run pins s σ H R I ?_⟩
  refine oneE (f := fun r ρ1 => rngA (vals ρ1 [r]) fun i j => Q0 (rngD i j) ρ1) R0 h hx fun r ρ1 F1 v H1 z m R1 rr => ?_
  unfold rngA at z
  split at z
  · rename_i j e
    obtain ⟨d, e1, ev⟩ := vals1_of e
    cases e1
    obtain ⟨⟨b1, b2⟩, z⟩ := z
    have e2 := vw_int (rr.vw R1 ev)
    subst e2
    have w := walk_rng (cl := cl) (c := c) (F := F1) (K := X.K) (lo := 0) (hi := j)
    rw [Int.sub_zero] at w
    exact ⟨j, rfl, b1, b2, q _ _ F1 _ H1 z m R1 w⟩
  · rename_i i j e
    obtain ⟨d, e1, _⟩ := vals1_of e
    cases e1
  · exact z.elim
theorem i_rng2 {a b : Expr} {ea eb : E} (G : Gd X Γ cl g k W) (hg : Gl X "range") (ha : PE X a (tE Γ cl X.K W ea)) (hb : PE X b (tE Γ cl X.K W eb)) (hs : starEach [a, b] X.env = [(false, eval a X.env), (false, eval b X.env)]) (hs2 : starEach [b] X.env = [(false, eval b X.env)]) :
    PI X tg (.Call (.Name "range" p) [a, b] [] pos) (tI' Γ cl X.K W (.rng (.cons ea (.cons eb .nil)))) := by
  refine ⟨fun pins s σ H R I ⟨c, F, ρ, Q0, X0, R0, h, q, hx⟩ => (pi_range2 hg (G.bn _ (by decide +kernel)) (pa_cons ha (pa_cons hb pa_nil hs2) (by rw [hs, hs2])) hs hs2).run pins s σ H R I ?_⟩
  refine twoH (f := fun r r' ρ1 => rngA (vals ρ1 [r, r']) fun i j => Q0 (rngD i j) ρ1) R0 h hx fun r r' ρ1 F1 v u H1 z m R1 r1 r2 => ?_
  unfold rngA at z
  split at z
  · rename_i j e
    obtain ⟨d, d', e1, _⟩ := vals2_of e
    cases e1
  · rename_i i j e
    obtain ⟨d, d', e1, ev, ev'⟩ := vals2_of e
    cases e1
    obtain ⟨bb, z⟩ := z
    have e2 := vw_int (r1.vw R1 ev)
    have e3 := vw_int (r2.vw R1 ev')
    subst e2 e3
    exact ⟨i, j, rfl, bb, q _ _ F1 _ H1 z m R1 walk_rng⟩
  · exact z.elim
theorem enum_any {prog : Program} {w : World} (a : Addr) : MeetsIn prog w (Builtin.«enumerate.__new__» ⟨[.type "enumerate", .ref a], []⟩) (fun A R s => wpAny (model prog w) A.in1 (pyIter (.ref a)) (fun v s1 => ∃ it, v = .ref it ∧
    R (.ok (.ret (.ref s1.heap.objs.size))) { s1 with heap := s1.heap.push { cls := .type "enumerate", data := .fields #[.none, .bool false, .ref it, rawInt 0, .none, .none] } }) (fun e s' => R (.error e) s') s) :=
  .of_wp fun A R s h => by
    have hsub := sub_enumerate
    obtain ⟨hp, g, d, tk, os⟩ := s
    have hit : ∀ {Q : Value → Shared → Prop}, (∀ v s1, (∃ it, v = .ref it ∧ R (.ok (.ret (.ref s1.heap.objs.size))) { s1 with heap := s1.heap.push { cls := .type "enumerate", data := .fields #[.none, .bool false, .ref it, rawInt 0, .none, .none] } }) → Q v s1) →
        wpAny (model prog w) A.in1 (pyIter (.ref a)) Q (fun e s' => R (.error e) s') ⟨hp, g, d, tk, os⟩ := fun q => wpAny_mono h q fun _ _ z => z
    wp_walk
    refine wpAny_stack_any fun st => wpAny_pure ?_
    have fin : ∀ v s1, (∃ it, v = .ref it ∧ R (.ok (.ret (.ref s1.heap.objs.size))) { s1 with heap := s1.heap.push { cls := .type "enumerate", data := .fields #[.none, .bool false, .ref it, rawInt 0, .none, .none] } }) →
        wpAny (model prog w) A.in1 (do
          let r ← Builtin.SmallTypes.newRecord (.type "enumerate") (Builtin.SmallTypes.ownedTupleFields ++ [v, rawInt 0, Value.none, Value.none])
          ret r) (fun fin s' => ∃ v, fin = Fin.done (Flow.ret v) ∧ R (Except.ok (Flow.ret v)) s') (fun e s' => R (Except.error e) s') s1 := by
      rintro v ⟨hp1, g1, d1, tk1, os1⟩ ⟨it, rfl, h2⟩
      wp_walk
      exact ⟨_, rfl, h2⟩
    split
    · rename_i c _ _ _ _ _
      cases (c == Value.type "enumerate")
      · wp_walk using hit
        exact fin
      · wp_walk using hit
        exact fin
    · wp_walk using hit
      exact fin
/-- iter of an own thing -/
theorem iter_own {A1 : Around} {a C dx l : Addr} {fs : List (Str × V)} {vs : List V} {n f : Str} {T : Value → Shared → Prop} {EE : Value → Shared → Prop} (G : Gd X Γ cl g k W) (hr : Room k A1) (hfr : A1.frames = X.A.frames) (I : Inv X pins σ H s) (hc : cl n C) (hf : Γ.itf n = some f)
    (ha : H a = some (.ins C dx fs)) (hl : fs.lookup f = some (.ref l)) (hq : SqL X.K H l vs) (h : ∀ it s', Inv X pins σ H s' → s'.heap.IsListIter it l 0 → FpOk X pins H it → T (.ref it) s') : wpAny (model X.prog X.w) A1 (pyIter (.ref a)) T EE s := by
  obtain ⟨na, fi, fd, ps, me, bi, FN⟩ := G.iti n C f hc hf
  obtain ⟨mA, O, _⟩ := ins_get I.hok ha
  obtain ⟨od, J, _⟩ := O.look
  obtain ⟨m, hF⟩ := I.fr
  refine PySem.W.owit_iter hF I.ok.mod.kin J me.at_ me.fn ?_
  have sp : spIt X.K f s.heap.objs.size [.ref a] H (fun x H' => ∃ it, H it = none ∧ s.heap.objs.size ≤ it ∧ x = V.ref it ∧ H' = upd H it (ItO l it 0)) fun _ _ _ => False := ⟨a, C, dx, fs, l, vs, ⟨G.cls n C hc, na⟩, rfl, ha, hl, hq, fun it hn hy => ⟨it, hn, hy, rfl, rfl⟩⟩
  refine run_in rfl (FN.run A1 X.stack s H ⟨[.ref a], []⟩ [.ref a] [.ref a] _ _ hr (env_in I hfr) (bind1 bi I FN.len) (.cons rfl .nil) sp) I fun w s' x H' un I' rx z => ?_
  obtain ⟨it, hn, young, rfl, rfl⟩ := z
  obtain rfl : w = Value.ref it := rx
  have eo := itO_get I' upd_same
  have e1 : upd H it (ItO l it 0) it = some (ItO l it 0) := upd_same
  have I2 := ItX.inv_drop I' e1
  have F2 := ItX.inv_fp I' e1 (Nat.le_trans I.sz young)
  rw [ItX.dropH_upd hn] at I2 F2
  have hT : s'.TypeIs (.ref it) "list_iterator" := ⟨_, eo, rfl⟩
  unfold PySem.W.OwitIt
  exact wpAny_specialOf (name := Str.ofString "__next__") hT slot_listiter_next.lookup (h it s' I2 ⟨_, eo, rfl, rfl⟩ F2)
/-- what walks v -/
theorem src_pie {ds : List D} {T : It → Hp → Prop} (G : Gd X Γ cl g k W) (I : Inv X pins σ H s) (R0 : Rl cl X.K c F ρ σ H) (sr : Src Γ cl X.K c F v ds) {w : Value} (rw' : RelV v w) (h : ∀ J, Walk cl X.K c F ds J → T J H) : wpAny (model X.prog X.w) X.A (pyIter w) (PIE X pins σ tg T) X.xe s := by
  cases sr with
  | @lst a vs _ h1 h2 =>
    cases rw'
    have hq : SqL X.K H a vs := .of (at_list R0 h1)
    obtain ⟨its, rv, pl, hz⟩ := I.list hq
    refine wpAny_pyIter_list pl.isList ⟨s.heap.objs.size, [s.heap.objs.size], _, Itl X.K a, H, rfl, I.kept (t' := s.toks) fun b ob e => Heap.get?_push_of_some _ e, turn_list a _, ⟨_, Heap.get?_push_size _ rfl, rfl, rfl⟩, fun b hb => ?_, h _ (walk_list h1 h2)⟩
    obtain rfl : b = s.heap.objs.size := by simpa using hb
    exact I.fpOk (Nat.le_refl _) (I.hok.fresh (Nat.le_refl _))
  | @tup a vs _ h1 h2 =>
    cases rw'
    have hq : SqT X.K H a vs := .of (R0.fh _ _ h1)
    obtain ⟨its, rv, pl, hz⟩ := I.tuple hq
    refine wpAny_pyIter_tuple (show s.heap.IsTuple a its.toArray from pl) ⟨s.heap.objs.size, [s.heap.objs.size], _, Itt X.K a, H, rfl, I.kept (t' := s.toks) fun b ob e => Heap.get?_push_of_some _ e, turn_tuple a _, ⟨_, Heap.get?_push_size _ rfl, rfl, rfl⟩, fun b hb => ?_, h _ (walk_tup h1 h2)⟩
    obtain rfl : b = s.heap.objs.size := by simpa using hb
    exact I.fpOk (Nat.le_refl _) (I.hok.fresh (Nat.le_refl _))
  | @ins a n f C dx fs l vs _ h1 h2 h3 h4 h5 h6 =>
    cases rw'
    refine iter_own G G.low rfl I h2 h3 (R0.fh _ _ h1) h4 (.of (R0.fh _ _ h5)) fun it s' I' st fp => ?_
    refine ⟨it, [it], _, Itl X.K l, H, rfl, I', turn_list l it, st, fun b hb => ?_, h _ (walk_list (.inl h5) h6)⟩
    obtain rfl : b = it := by simpa using hb
    exact fp
theorem i_ex {e : Expr} {ee : E} (G : Gd X Γ cl g k W) (he : PE X e (tE Γ cl X.K W ee)) : PI X tg e (tI' Γ cl X.K W (.ex ee)) := by
  refine ⟨fun pins s σ H R I ⟨c, F, ρ, Q0, X0, R0, h, q, hx⟩ => ?_⟩
  refine thn (he.run pins s σ H (fun v H1 => ∃ F1 ρ1 ds, Same F F1 ∧ Rl cl X.K c F1 ρ1 σ H1 ∧ Src Γ cl X.K c F1 v ds ∧ Q0 ds ρ1) I (oneE (f := fun r ρ1 => itemsR Γ ρ1 r Q0) R0 h hx fun r ρ1 F1 v H1 z m R1 rr => ?_)) fun w s1 ⟨v, H1, I1, rv, F1, ρ1, ds, m1, R1, sr, z⟩ => ?_
  · obtain ⟨F2, ρ2, ds, m2, R2, sr, z⟩ := src_of R1 rr z
    exact ⟨F2, ρ2, ds, m.trans m2, R2, sr, z⟩
  · exact src_pie G I1 R1 sr rv fun J w => q _ _ F1 _ H1 z m1 R1 w
theorem fp_two {ds : List D} {T : It → Hp → Prop} {a e it : Addr} {vs : List V} {elts : List Expr} {kk : Nat} {tpos : Pos} (I : Inv X pins σ H s) (he : IsEnum s.heap e it 0 .none) (hi : s.heap.IsListIter it a 0) (hne : e ≠ it) (f1 : FpOk X pins H e) (f2 : FpOk X pins H it)
    (h1 : F a = some (.lst vs) ∨ (c.B a = some (.lst vs) ∧ ∀ j, (j, a) ∉ c.ios)) (h2 : Reps cl X.K F vs ds) (h : ∀ J, Walk cl X.K c F (enumD ds) J → T J H) : PIE X pins σ (.Tuple elts kk tpos) T (.ref e) s := by
  refine ⟨e, [e, it], _, Ite X.K a, H, rfl, I, turn_enum a e it, ⟨⟨.none, he⟩, hi, hne⟩, fun b hb => ?_, h _ (walk_enum h1 h2)⟩
  rcases (show b = e ∨ b = it by simpa using hb) with z | z
  · rw [z]
    exact f1
  · rw [z]
    exact f2
theorem enu_pie {ds : List D} {T : It → Hp → Prop} {elts : List Expr} {kk : Nat} {tpos : Pos} (G : Gd X Γ cl g k W) (I : Inv X pins σ H s) (R0 : Rl cl X.K c F ρ σ H) (sr : Src Γ cl X.K c F v ds) (nt : ∀ a vs, v = .ref a → F a ≠ some (.tup vs)) {w : Value} (rw' : RelV v w) (h : ∀ J, Walk cl X.K c F (enumD ds) J → T J H) :
    wpAny (model X.prog X.w) X.A (call (.type "enumerate") [w]) (fun u s1 => wpAny (model X.prog X.w) X.A (pyIter u) (PIE X pins σ (.Tuple elts kk tpos) T) X.xe s1) X.xe s := by
  cases sr with
  | @lst a vs _ h1 h2 =>
    cases rw'
    have hq : SqL X.K H a vs := .of (at_list R0 h1)
    obtain ⟨its, rv, pl, hz⟩ := I.list hq
    refine call_enumerate_list pl.isList fun h' he hit hsz hk => wpAny_pyIter_enum he ?_
    have I2 : Inv X pins σ H { s with heap := h' } := I.kept (t' := s.toks) hk
    exact fp_two (s := { s with heap := h' }) I2 he hit (Nat.succ_ne_self _) (I.fpOk (Nat.le_succ _) (I.hok.fresh (Nat.le_succ _))) (I.fpOk (Nat.le_refl _) (I.hok.fresh (Nat.le_refl _))) h1 h2 h
  | @tup a vs _ h1 h2 => exact absurd h1 (nt a vs rfl)
  | @ins a n f C dx fs l vs _ h1 h2 h3 h4 h5 h6 =>
    cases rw'
    refine callType_newIn PySem.F.called_enumerate (by decide) (PySem.F.typeCall_enumerate_1 _) (PySem.F.newCall_enumerate_1 _) (fun obj => PySem.F.args_object_init_2 obj _) PySem.F.entry_enumerate_new (enum_any a) ?_
    refine iter_own G (G.rm.in1.in1) rfl I h2 h3 (R0.fh _ _ h1) h4 (.of (R0.fh _ _ h5)) fun it s' I' st fp => ⟨it, rfl, ?_⟩
    have e0 : (s'.heap.push { cls := .type "enumerate", data := .fields #[.none, .bool false, .ref it, rawInt 0, .none, .none] }).get? s'.heap.objs.size = some { cls := .type "enumerate", data := .fields #[.none, .bool false, .ref it, rawInt 0, .none, .none] } := Heap.get?_push_size _ rfl
    have lt : it < s'.heap.objs.size := by
      obtain ⟨o, eo, _⟩ := st
      exact Heap.lt_size eo
    refine ⟨⟨_, e0, rfl⟩, wpAny_pyIter_enum (old := .none) e0 ?_⟩
    refine fp_two (I'.kept (t' := s'.toks) fun b ob e => Heap.get?_push_of_some _ e) e0 (st.at fun o e => Heap.get?_push_of_some _ e) (Nat.ne_of_gt lt) (I'.fpOk (Nat.le_refl _) (I'.hok.fresh (Nat.le_refl _))) fp (.inl h5) h6 h
/-- enumerate(..) -/
theorem i_enu {a : Expr} {ea : E} {elts : List Expr} {kk : Nat} {tpos : Pos} (G : Gd X Γ cl g k W) (hg : Gl X "enumerate") (ha : PE X a (tE Γ cl X.K W ea)) (hs : starEach [a] X.env = [(false, eval a X.env)]) :
    PI X (.Tuple elts kk tpos) (.Call (.Name "enumerate" p) [a] [] pos) (tI' Γ cl X.K W (.enu ea)) := by
  refine ⟨fun pins s σ H R I ⟨c, F, ρ, Q0, X0, R0, h, q, hx⟩ => ?_⟩
  refine Call_ (ld_blt (u := .type "enumerate") I hg (G.bn _ (by decide +kernel)) (by decide +kernel) ?_ (by decide +kernel) (by decide +kernel))
  refine PyProof.Rows.callWith_type1 (thn ((pa_cons ha pa_nil hs).run pos pins s σ H (fun vs H1 => ∃ v F1 ρ1 ds, vs = [v] ∧ Same F F1 ∧ Rl cl X.K c F1 ρ1 σ H1 ∧ Src Γ cl X.K c F1 v ds ∧ (∀ a vs, v = V.ref a → F1 a ≠ some (.tup vs)) ∧ Q0 (enumD ds) ρ1) I
    (oneE (f := fun r ρ1 => notTup (val ρ1 r) = true ∧ itemsR Γ ρ1 r fun ds ρ2 => Q0 (enumD ds) ρ2) R0 h hx fun r ρ1 F1 v H1 z m R1 rr => ?_)) fun us s1 ⟨vs, H1, I1, r1, v, F1, ρ1, ds, ev, m1, R1, sr, nt, z⟩ => ?_) hs rfl
  · obtain ⟨nt, z⟩ := z
    obtain ⟨F2, ρ2, ds, m2, R2, sr, z⟩ := src_of R1 rr z
    refine ⟨v, F2, ρ2, ds, rfl, m.trans m2, R2, sr, fun a vs ea et => ?_, z⟩
    cases ed : val ρ1 r with
    | none =>
      rw [ed] at nt
      cases nt
    | some d =>
      have vw := rr.vw R1 ed
      have ht := R2.fh _ _ et
      subst ea
      cases d with
      | tup l =>
        rw [ed] at nt
        cases nt
      | scr l =>
        rw [ed] at nt
        cases nt
      | lst l =>
        obtain ⟨a', ws, e, hh, _⟩ := vw
        cases e
        rw [ht] at hh
        cases hh
      | dct l =>
        obtain ⟨a', ws, e, hh, _⟩ := vw
        cases e
        rw [ht] at hh
        cases hh
      | ins n es =>
        obtain ⟨a', C, dx, fs, e, _, hh, _⟩ := vw_ins vw
        cases e
        have := R1.fh _ _ hh
        rw [ht] at this
        cases this
      | _ => cases (show Rep cl X.K F1 (V.ref a) _ from vw)
  · subst ev
    obtain ⟨u, rfl, ru⟩ := vals1 r1
    exact enu_pie G I1 R1 sr nt ru fun J w => q _ _ F1 _ H1 z m1 R1 w
/-- zip(.., ..), lists -/
theorem i_zip {a b : Expr} {ea eb : E} {elts : List Expr} {kk : Nat} {tpos : Pos} (G : Gd X Γ cl g k W) (hg : Gl X "zip") (ha : PE X a (tE Γ cl X.K W ea)) (hb : PE X b (tE Γ cl X.K W eb)) (hs : starEach [a, b] X.env = (false, eval a X.env) :: starEach [b] X.env) (hs2 : starEach [b] X.env = (false, eval b X.env) :: starEach [] X.env)
    (hpl : (backTo pos (starEach [b] X.env)).any (·.1) = false) : PI X (.Tuple elts kk tpos) (.Call (.Name "zip" p) [a, b] [] pos) (tI' Γ cl X.K W (.zip ea eb)) := by
  refine ⟨fun pins s σ H R I ⟨c, F, ρ, Q0, X0, R0, h, q, hx⟩ => (pi_zip hg (G.bn _ (by decide +kernel)) (pa_cons ha (pa_cons hb pa_nil hs2) hs) hs hpl).run pins s σ H R I ?_⟩
  refine twoH (f := fun ra rb ρ2 => w2 (keep ρ2 ra) fun x ρ3 => w2 (keep ρ3 rb) fun y ρ4 => wL (some x) fun as => wL (some y) fun bs => as.length = bs.length ∧ Q0 (zipD as bs) ρ4) R0 h hx fun r r' ρ1 F1 v u H1 z m R1 r1 r2 => ?_
  obtain ⟨x, ρ3, e1, z⟩ := w2_of z
  obtain ⟨y, ρ4, e2, z⟩ := w2_of z
  obtain ⟨as, ex, z1⟩ := wL_of z
  obtain ⟨bs, ey, hl, z2⟩ := wL_of z1
  cases ex
  cases ey
  obtain ⟨F3, m3, R3, p3⟩ := r1.keep R1 e1
  obtain ⟨F4, m4, R4, p4⟩ := (r2.mono m3).keep R3 e2
  have p3 := p3.mono m4
  cases p3 with
  | lst h1 h2 =>
    cases p4 with
    | lst h3 h4 => exact ⟨_, _, _, _, rfl, .of (R4.fh _ _ h1), .of (R4.fh _ _ h3), q _ _ F4 _ H1 z2 ((m.trans m3).trans m4) R4 (walk_zip (.inl h1) h2 (.inl h3) h4 hl)⟩
end
end M
set_option linter.all false
set_option Elab.async false
set_option maxRecDepth 10000
/-! MiniJ: targets, comprehensions. -/
namespace M
open PySem PySem.Spec PyProof.Rows L2

/-! ### a thing beside the slots -/
def Ct.pin (c : Ct) (D : Addr) (o : HO) (h0 : c.H0 D = none) : Ct := ⟨c.F0, upd c.H0 D o, c.ios, c.bl, c.B, c.gh, c.hb,
  fun a u e => by
    rw [upd_ne (ne_of_none (c.gB a u e) h0)]
    exact c.gB a u e,
  fun i a as g => by
    obtain ⟨h1, h2⟩ := c.gl i a as g
    rw [upd_ne (ne_of_none h1 h0)]
    exact ⟨h1, h2⟩,
  fun i a as b g m => by
    obtain ⟨h1, h2⟩ := c.gf i a as b g m
    rw [upd_ne (fun z => h1 (by rw [z]; exact h0))]
    exact ⟨h1, h2⟩, c.gd⟩
section
variable {X : Cx} {Γ : Tb} {cl : Str → Addr → Prop} {K : PySem.W.Frag} {W : WX} {c : Ct} {F F' H H' : Hp} {ρ : En} {σ : L2.St} {v u : V} {pos p apos : Pos} {g : Bool} {k : Nat} {s : Shared} {pins : List (Addr × Obj)} {tg : Expr}
/-- D is no slot's, no frozen thing, holds vs -/
structure Beside (c : Ct) (F : Hp) (ρ : En) (σ : L2.St) (H : Hp) (D : Addr) (o : HO) : Prop where
  h0 : c.H0 D = none
  f : F D = none
  h : H D = some o
  ne : ∀ (i : Nat) s, ρ[i]? = some s → s.own = true → σ[i]? ≠ some (some (V.ref D))
theorem pin_up {D : Addr} {o : HO} (h0 : c.H0 D = none) (a : Addr) (u : HO) (e : c.H0 a = some u) : (c.pin D o h0).H0 a = some u := by
  show upd c.H0 D o a = some u
  rw [upd_ne (ne_of_none e h0)]
  exact e
theorem pin_le {D : Addr} {o : HO} (h0 : c.H0 D = none) : CLe c (c.pin D o h0) := fun a u e n => ⟨pin_up h0 a u (c.gB a u e), n⟩
theorem Rl.pin {D : Addr} {o : HO} (R : Rl cl K c F ρ σ H) (b : Beside c F ρ σ H D o) : Rl cl K (c.pin D o b.h0) F ρ σ H where
  len := R.len
  fh := R.fh
  f0 := R.f0
  fn := fun a n z => by
    show upd c.H0 D o a = none
    rw [upd_ne (fun e => n (by rw [e]; exact b.f))]
    exact R.fn a n z
  kp := fun a u e n => by
    have e : upd c.H0 D o a = some u := e
    by_cases z : a = D
    · subst z
      rw [upd_same] at e
      cases e
      exact b.h
    · rw [upd_ne z] at e
      exact R.kp a u e n
  sl := fun i s e => by
    have q := R.sl i s e
    have hn : ∀ a : Addr, c.H0 a = none → s.own = true → σ[i]? = some (some (V.ref a)) → (c.pin D o b.h0).H0 a = none := fun a n ow z => by
      show upd c.H0 D o a = none
      rw [upd_ne (fun e2 => b.ne i s e ow (by rw [← e2]; exact z))]
      exact n
    cases s with
    | top => trivial
    | sh d => exact q
    | bo ds =>
      obtain ⟨a, vs, e1, h0, n, r⟩ := q
      exact ⟨a, vs, e1, h0, n, r⟩
    | ow ds =>
      obtain ⟨a, vs, e1, h0, r⟩ := q
      exact ⟨a, vs, e1, hn a h0 rfl e1, r⟩
    | io ds => exact q
    | dc ds =>
      obtain ⟨a, vs, e1, h0, r⟩ := q
      exact ⟨a, vs, e1, hn a h0 rfl e1, r⟩
    | on dss =>
      obtain ⟨a, as, e1, g, l, q⟩ := q
      refine ⟨a, as, e1, g, l, fun j b' ds h1 h2 => ?_⟩
      obtain ⟨vs, h3, r⟩ := q j b' ds h1 h2
      exact ⟨vs, pin_up b.h0 _ _ h3, r⟩
    | al o j ds =>
      obtain ⟨a, as, b', vs, g, h1, e1, h3, r⟩ := q
      exact ⟨a, as, b', vs, g, h1, e1, pin_up b.h0 _ _ h3, r⟩
    | bd ds =>
      obtain ⟨a, vs, e1, h0, n, r⟩ := q
      exact ⟨a, vs, e1, h0, n, r⟩
  ap := R.ap
  io := fun j a z => ⟨fun e => by
    have e : upd c.H0 D o a = none := e
    by_cases y : a = D
    · exact (R.io j a z).1 (by rw [y]; exact b.h0)
    · rw [upd_ne y] at e
      exact (R.io j a z).1 e, (R.io j a z).2⟩
theorem Rl.unpin {D : Addr} {o : HO} {h0 : c.H0 D = none} (R : Rl cl K (c.pin D o h0) F ρ σ H) (f0 : c.F0 D = none) (hi : ∀ j, (j, D) ∉ c.ios) : Rl cl K c F ρ σ H ∧ Beside c F ρ σ H D o := by
  have up : ∀ a u, c.H0 a = some u → (c.pin D o h0).H0 a = some u := fun a u e => by
    show upd c.H0 D o a = some u
    rw [upd_ne (ne_of_none e h0)]
    exact e
  have dn : ∀ a, (c.pin D o h0).H0 a = none → c.H0 a = none ∧ a ≠ D := fun a e => by
    have e : upd c.H0 D o a = none := e
    by_cases y : a = D
    · rw [y, upd_same] at e
      cases e
    · rw [upd_ne y] at e
      exact ⟨e, y⟩
  have dD : (c.pin D o h0).H0 D = some o := upd_same
  refine ⟨⟨R.len, R.fh, R.f0, fun a n z => (dn a (R.fn a n z)).1, fun a u e n => R.kp a u (up a u e) n, fun i s e => ?_, R.ap, fun j a z => ⟨fun e => ?_, (R.io j a z).2⟩⟩, h0, ?_, R.kp D o dD hi, fun i s e ow z => ?_⟩
  · have q := R.sl i s e
    cases s with
    | top => trivial
    | sh d => exact q
    | bo ds =>
      obtain ⟨a, vs, e1, hh, n, r⟩ := q
      exact ⟨a, vs, e1, hh, n, r⟩
    | ow ds =>
      obtain ⟨a, vs, e1, hh, r⟩ := q
      exact ⟨a, vs, e1, (dn a hh).1, r⟩
    | io ds => exact q
    | dc ds =>
      obtain ⟨a, vs, e1, hh, r⟩ := q
      exact ⟨a, vs, e1, (dn a hh).1, r⟩
    | bd ds =>
      obtain ⟨a, vs, e1, hh, n, r⟩ := q
      exact ⟨a, vs, e1, hh, n, r⟩
    | on dss =>
      obtain ⟨a, as, e1, g, l, q⟩ := q
      refine ⟨a, as, e1, g, l, fun j b' ds h1 h2 => ?_⟩
      obtain ⟨vs, h3, r⟩ := q j b' ds h1 h2
      have h3 : upd c.H0 D o b' = some (.lst vs) := h3
      rw [upd_ne (fun z => (c.gf _ _ _ b' g (List.mem_cons_of_mem _ (List.mem_of_getElem? h1))).1 (by rw [z]; exact h0))] at h3
      exact ⟨vs, h3, r⟩
    | al o' j ds =>
      obtain ⟨a, as, b', vs, g, h1, e1, h3, r⟩ := q
      have h3 : upd c.H0 D o b' = some (.lst vs) := h3
      rw [upd_ne (fun z => (c.gf _ _ _ b' g (List.mem_cons_of_mem _ (List.mem_of_getElem? h1))).1 (by rw [z]; exact h0))] at h3
      exact ⟨a, as, b', vs, g, h1, e1, h3, r⟩
  · by_cases y : a = D
    · exact hi j (by rw [← y]; exact z)
    · exact (R.io j a z).1 (by
        show upd c.H0 D o a = none
        rw [upd_ne y]
        exact e)
  · cases e : F D with
    | none => rfl
    | some u =>
      have := R.fn D (by rw [e]; simp) f0
      rw [dD] at this
      cases this
  · have q := R.sl i s e
    cases s with
    | ow ds =>
      obtain ⟨a, vs, e1, hh, r⟩ := q
      rw [z] at e1
      cases e1
      exact (dn D hh).2 rfl
    | io ds =>
      obtain ⟨a, vs, e1, hh, r⟩ := q
      rw [z] at e1
      cases e1
      exact hi i hh
    | dc ds =>
      obtain ⟨a, vs, e1, hh, r⟩ := q
      rw [z] at e1
      cases e1
      exact (dn D hh).2 rfl
    | _ => cases ow

/-! ### targets -/
mutual
def tIx : T → List Nat
  | .nm i => [i]
  | .tp a r => tIx a ++ tIx r
  | .tz => []
end
def T.len : T → Nat
  | .tp _ r => r.len + 1
  | _ => 0
mutual
theorem dTg_ex : ∀ {t : T} {d : D} {ρ : En} {Q : En → Prop}, dTg t d ρ Q → ∃ ρ', Q ρ'
  | .nm i, d, ρ, Q, h => ⟨_, (show isIo ρ[i]? = false ∧ Q (ρ.set i (.sh d)) from h).2⟩
  | .tp a r, d, ρ, Q, h => by
    cases d with
    | tup ds =>
      cases ds with
      | nil => exact (show False from h).elim
      | cons x xs =>
        obtain ⟨ρ1, z⟩ := dTg_ex (show dTg a x ρ (fun ρ1 => dTr r xs ρ1 Q) from h)
        exact (dTr_ex z).2
    | _ => exact (show False from h).elim
  | .tz, d, ρ, Q, h => (show False from h).elim
theorem dTr_ex : ∀ {r : T} {ds : List D} {ρ : En} {Q : En → Prop}, dTr r ds ρ Q → ds.length = r.len ∧ ∃ ρ', Q ρ'
  | .tp b r, ds, ρ, Q, h => by
    cases ds with
    | nil => exact (show False from h).elim
    | cons x xs =>
      obtain ⟨ρ1, z⟩ := dTg_ex (show dTg b x ρ (fun ρ1 => dTr r xs ρ1 Q) from h)
      obtain ⟨e, z⟩ := dTr_ex z
      exact ⟨congrArg Nat.succ e, z⟩
  | .tz, ds, ρ, Q, h => by
    obtain ⟨e, z⟩ := (show ds = [] ∧ Q ρ from h)
    exact ⟨by rw [e]; rfl, ρ, z⟩
  | .nm i, ds, ρ, Q, h => (show False from h).elim
end
/-- only the slots vs have changed -/
def Only (vs : List Nat) (σ σ' : L2.St) : Prop := σ'.length = σ.length ∧ ∀ ws : List Nat, (∀ i ∈ vs, i ∈ ws) → wipe σ' ws = wipe σ ws
theorem wipe_get {σ : L2.St} {j : Nat} : ∀ {vs : List Nat}, (wipe σ vs)[j]? = if j ∈ vs then (if j < σ.length then some none else none) else σ[j]?
  | [] => by simp [wipe]
  | v :: vs => by
    unfold wipe
    by_cases e : v = j
    · subst e
      by_cases hl : v < σ.length
      · rw [List.getElem?_set_self (by rw [wipe_length]; exact hl)]
        simp [hl]
      · rw [List.getElem?_eq_none (by rw [List.length_set, wipe_length]; omega)]
        simp [hl]
    · rw [List.getElem?_set_ne e, wipe_get (vs := vs)]
      have : (j ∈ v :: vs) ↔ (j ∈ vs) := by
        rw [List.mem_cons]
        exact ⟨fun z => z.resolve_left fun y => e y.symm, .inr⟩
      simp only [this]
theorem only_set {i : Nat} {x : Option V} : Only [i] σ (σ.set i x) := by
  refine ⟨List.length_set .., fun ws h => ?_⟩
  have hi := h i (by simp)
  refine List.ext_getElem? fun j => ?_
  rw [wipe_get, wipe_get, List.length_set]
  by_cases e : j ∈ ws
  · simp [e]
  · rw [if_neg e, if_neg e]
    exact List.getElem?_set_ne fun z => e (by rw [← z]; exact hi)
theorem Only.trans {vs ws : List Nat} {σ1 σ2 : L2.St} (h : Only vs σ σ1) (h' : Only ws σ1 σ2) : Only (vs ++ ws) σ σ2 :=
  ⟨h'.1.trans h.1, fun zs m => (h'.2 zs fun i hi => m i (List.mem_append_right _ hi)).trans (h.2 zs fun i hi => m i (List.mem_append_left _ hi))⟩
def tG (cl : Str → Addr → Prop) (K : PySem.W.Frag) (t : T) : TG := fun v σ H Q => ∃ (c : Ct) (F : Hp) (ρ : En) (d : D) (Q0 : En → Prop), Rl cl K c F ρ σ H ∧ Rep cl K F v d ∧ dTg t d ρ Q0 ∧
  ∀ ρ' σ', Q0 ρ' → Rl cl K c F ρ' σ' H → Only (tIx t) σ σ' → Q σ' H
def tGs (cl : Str → Addr → Prop) (K : PySem.W.Frag) (r : T) : TGs := fun vs σ H Q => ∃ (c : Ct) (F : Hp) (ρ : En) (ds : List D) (Q0 : En → Prop), Rl cl K c F ρ σ H ∧ Reps cl K F vs ds ∧ dTr r ds ρ Q0 ∧
  ∀ ρ' σ', Q0 ρ' → Rl cl K c F ρ' σ' H → Only (tIx r) σ σ' → Q σ' H
theorem PG.weak {e : Expr} {t t' : TG} (h : PG X e t) (w : ∀ v σ H Q, t' v σ H Q → t v σ H Q) : PG X e t' := ⟨fun pins s σ H v u Q I r q => h.run pins s σ H v u Q I r (w v σ H Q q)⟩
theorem PGs.weak {e : List Expr} {t t' : TGs} (h : PGs X e t) (w : ∀ v σ H Q, t' v σ H Q → t v σ H Q) : PGs X e t' := ⟨fun pins s σ H v u Q I r q => h.run pins s σ H v u Q I r (w v σ H Q q)⟩
theorem Rl.put {i : Nat} {d : D} (R : Rl cl K c F ρ σ H) (r : Rep cl K F v d) : Rl cl K c F (ρ.set i (.sh d)) (σ.set i (some v)) H := by
  by_cases hi : i < σ.length
  · exact R.store hi ⟨v, rfl, r⟩ fun z => by cases z
  · rw [List.set_eq_of_length_le (by rw [R.len]; omega), List.set_eq_of_length_le (by omega)]
    exact R
theorem g_name {i : Nat} {x : Str} (hN : X.N.Nodup) (hi : X.N[i]? = some x) (hx : X.env.scope.names.lookup x = some .local ∨ (X.env.scope.names.lookup x = some .cell ∧ X.fn x = true)) : PG X (.Name x pos) (tG cl X.K (.nm i)) :=
  PG.weak (pg_name hN hi (hx.imp id (·.1)) (hx.elim .inr fun z => .inl z.2)) fun v σ H Q ⟨c, F, ρ, d, Q0, R0, r, h, q⟩ => q _ _ (show isIo ρ[i]? = false ∧ Q0 (ρ.set i (.sh d)) from h).2 (R0.put r) only_set
theorem gs_nil : PGs X [] (tGs cl X.K .tz) :=
  PGs.weak pgs_nil fun vs σ H Q ⟨c, F, ρ, ds, Q0, R0, r, hd, q⟩ => by
    obtain ⟨e, z⟩ := (show ds = [] ∧ Q0 ρ from hd)
    subst e
    cases r
    exact ⟨rfl, q ρ σ z R0 ⟨rfl, fun _ _ => rfl⟩⟩
theorem gs_cons {e : Expr} {es : List Expr} {a r : T} (h : PG X e (tG cl X.K a)) (hr : PGs X es (tGs cl X.K r)) (hs : (assignEach (e :: es) X.env).map (·.2) = assign e X.env :: (assignEach es X.env).map (·.2)) : PGs X (e :: es) (tGs cl X.K (.tp a r)) :=
  PGs.weak (pgs_cons h hr hs) fun vs σ H Q ⟨c, F, ρ, ds, Q0, R0, r0, hd, q⟩ => by
    cases r0 with
    | nil => exact (show False from hd).elim
    | @cons v d vs ds r1 r2 =>
      have hd : dTg a d ρ (fun ρ1 => dTr r ds ρ1 Q0) := hd
      exact ⟨v, vs, rfl, c, F, ρ, d, _, R0, r1, hd, fun ρ' σ' z R' o => ⟨c, F, ρ', ds, Q0, R', r2, z, fun ρ2 σ2 z2 R2 o2 => q ρ2 σ2 z2 R2 (o.trans o2)⟩⟩
theorem g_tup {es : List Expr} {kk : Nat} {a r : T} (hc : X.calm = true) (h : PGs X es (tGs cl X.K (.tp a r))) (hn : (assignEach es X.env).length = r.len + 1) (hst : (assignEach es X.env).findIdx? (·.1) = none) : PG X (.Tuple es kk pos) (tG cl X.K (.tp a r)) :=
  PG.weak (pg_tup hc h hn hst) fun v σ H Q ⟨c, F, ρ, d, Q0, R0, rr, hd, q⟩ => by
    cases d with
    | tup ds =>
      cases ds with
      | nil => exact (show False from hd).elim
      | cons x xs =>
        have hd : dTr (.tp a r) (x :: xs) ρ Q0 := hd
        cases rr with
        | tup h1 h2 => exact ⟨_, _, rfl, .of (R0.fh _ _ h1), by rw [h2.len]; exact (dTr_ex hd).1, c, F, ρ, x :: xs, Q0, R0, h2, hd, q⟩
    | _ => exact (show False from hd).elim
end
end M
set_option linter.all false
set_option Elab.async false
set_option maxRecDepth 10000
/-! MiniK: list comprehensions. -/
namespace M
open PySem PySem.Spec PyProof.Rows L2
def WF : WX := fun _ _ _ _ => False
section
variable {X : Cx} {Γ : Tb} {cl : Str → Addr → Prop} {K : PySem.W.Frag} {W : WX} {c : Ct} {F F' H H' : Hp} {ρ : En} {σ : L2.St} {v u : V} {pos p apos : Pos} {g : Bool} {k : Nat} {s : Shared} {pins : List (Addr × Obj)} {tg : Expr}
/-! ### a clause's tests -/
def tF' (Γ : Tb) (cl : Str → Addr → Prop) (K : PySem.W.Frag) (W : WX) (e : Bs) : TT := fun σ H Q => ∃ (c : Ct) (F : Hp) (ρ : En) (Q0 : Bool → En → Prop) (X0 : QX), Rl cl K c F ρ σ H ∧ dIf Γ e ρ Q0 X0 ∧
  (∀ r ρ' F' H', Q0 r ρ' → Same F F' → Rl cl K c F' ρ' σ H' → Q r H') ∧ ExL cl K c F σ W X0
theorem PTs.weak {e : List Expr} {t t' : TT} (h : PTs X e t) (w : ∀ σ H Q, t' σ H Q → t σ H Q) : PTs X e t' := ⟨fun pins s σ H Q I q => h.run pins s σ H Q I (w σ H Q q)⟩
theorem f_nil : PTs X [] (tF' Γ cl X.K W .nil) := PTs.weak pts_nil fun σ H Q ⟨c, F, ρ, Q0, X0, R0, h, q, hx⟩ => q _ _ F H h (Same.refl F) R0
theorem f_one {a : Expr} {ea : B} {r : Bs} (h : PT X a (tB' Γ cl X.K W ea)) : PTs X [a] (tF' Γ cl X.K W (.cons ea r)) := PTs.weak (pts_one h) fun σ H Q ⟨c, F, ρ, Q0, X0, R0, h, q, hx⟩ => ⟨c, F, ρ, Q0, X0, R0, h, q, hx⟩

/-! ### slots told anew -/
theorem Rl.re {ρ' : En} {σ' : L2.St} (R : Rl cl K c F ρ σ H) (hl : ρ'.length = σ'.length) (hs : ∀ (i : Nat) s, ρ'[i]? = some s → SlR cl K c F H i σ'[i]? s) (ho : ∀ (i : Nat) s, ρ'[i]? = some s → s.own = true → ∃ s0, ρ[i]? = some s0 ∧ s0.own = true ∧ σ'[i]? = σ[i]?) : Rl cl K c F ρ' σ' H :=
  ⟨hl, R.fh, R.f0, R.fn, R.kp, hs, fun i j s t a hij e1 e2 o1 o2 z1 z2 => by
    obtain ⟨s0, f1, g1, x1⟩ := ho i s e1 o1
    obtain ⟨t0, f2, g2, x2⟩ := ho j t e2 o2
    exact R.ap i j s0 t0 a hij f1 f2 g1 g2 (x1.symm.trans z1) (x2.symm.trans z2), R.io⟩
theorem wipeE_len : ∀ {own : List (Str × Nat)}, (wipeE ρ own).length = ρ.length
  | [] => rfl
  | v :: vs => by
    unfold wipeE
    rw [List.length_set, wipeE_len]
theorem wipeE_get {j : Nat} : ∀ {own : List (Str × Nat)}, (wipeE ρ own)[j]? = if j ∈ own.map (·.2) then (if j < ρ.length then some .top else none) else ρ[j]?
  | [] => by simp [wipeE]
  | v :: vs => by
    unfold wipeE
    by_cases e : v.2 = j
    · rw [← e]
      by_cases hl : v.2 < ρ.length
      · rw [List.getElem?_set_self (by rw [wipeE_len]; exact hl)]
        simp [hl]
      · rw [List.getElem?_eq_none (by rw [List.length_set, wipeE_len]; omega)]
        simp [hl]
    · rw [List.getElem?_set_ne e, wipeE_get (own := vs)]
      have : (j ∈ (v :: vs).map (·.2)) ↔ (j ∈ vs.map (·.2)) := by
        rw [List.map_cons, List.mem_cons]
        exact ⟨fun z => z.resolve_left fun y => e y.symm, .inr⟩
      simp only [this]
theorem backE_len {ρ0 : En} : ∀ {own : List (Str × Nat)}, (backE ρ0 own ρ).length = ρ.length
  | [] => rfl
  | v :: vs => by
    unfold backE
    split
    · rw [List.length_set, backE_len]
    · exact backE_len
theorem backE_get {ρ0 : En} {j : Nat} : ∀ {own : List (Str × Nat)}, (backE ρ0 own ρ)[j]? = ρ[j]? ∨ ∃ d, ρ0[j]? = some (.sh d) ∧ j ∈ own.map (·.2) ∧ (backE ρ0 own ρ)[j]? = some (.sh d)
  | [] => .inl rfl
  | v :: vs => by
    unfold backE
    have ih : _ := backE_get (ρ0 := ρ0) (j := j) (own := vs)
    have up : ((backE ρ0 vs ρ)[j]? = ρ[j]? ∨ ∃ d, ρ0[j]? = some (.sh d) ∧ j ∈ vs.map (·.2) ∧ (backE ρ0 vs ρ)[j]? = some (.sh d)) → (backE ρ0 vs ρ)[j]? = ρ[j]? ∨ ∃ d, ρ0[j]? = some (.sh d) ∧ j ∈ (v :: vs).map (·.2) ∧ (backE ρ0 vs ρ)[j]? = some (.sh d) := fun z =>
      z.imp id fun ⟨d, a, b, e⟩ => ⟨d, a, by rw [List.map_cons]; exact List.mem_cons_of_mem _ b, e⟩
    split
    · rename_i d e
      by_cases y : v.2 = j
      · subst y
        by_cases hl : v.2 < (backE ρ0 vs ρ).length
        · exact .inr ⟨d, e, by simp, List.getElem?_set_self hl⟩
        · refine .inl ?_
          rw [List.getElem?_eq_none (by rw [List.length_set]; omega), List.getElem?_eq_none (by rw [backE_len] at hl; omega)]
      · rw [List.getElem?_set_ne y]
        exact up ih
    · exact up ih
theorem Rl.wiped {own : List (Str × Nat)} (R : Rl cl K c F ρ σ H) : Rl cl K c F (wipeE ρ own) (wipe σ (own.map (·.2))) H := by
  refine R.re (by rw [wipeE_len, wipe_length]; exact R.len) (fun i s e => ?_) fun i s e o => ?_
  · rw [wipeE_get] at e
    rw [wipe_get]
    by_cases z : i ∈ own.map (·.2)
    · rw [if_pos z] at e
      by_cases hl : i < ρ.length
      · rw [if_pos hl] at e
        cases e
        trivial
      · rw [if_neg hl] at e
        cases e
    · rw [if_neg z] at e ⊢
      exact R.sl i s e
  · rw [wipeE_get] at e
    rw [wipe_get]
    by_cases z : i ∈ own.map (·.2)
    · rw [if_pos z] at e
      by_cases hl : i < ρ.length
      · rw [if_pos hl] at e
        cases e
        cases o
      · rw [if_neg hl] at e
        cases e
    · rw [if_neg z] at e ⊢
      exact ⟨s, e, o, rfl⟩
theorem wipe_wipe {vs : List Nat} : wipe (wipe σ vs) vs = wipe σ vs := by
  refine List.ext_getElem? fun j => ?_
  rw [wipe_get, wipe_get, wipe_length]
  by_cases e : j ∈ vs
  · simp [e]
  · simp [e]
/-- behind the block -/
theorem Rl.back {own : List (Str × Nat)} {ρ1 ρ2 : En} {F1 H1 : Hp} (R1 : Rl cl K c F1 ρ1 σ H1) (m : Same F1 F) (R : Rl cl K c F (wipeE ρ2 own) (wipe σ (own.map (·.2))) H) :
    Rl cl K c F (backE ρ1 own (wipeE ρ2 own)) σ H ∧ ∀ (i : Nat) s, (backE ρ1 own (wipeE ρ2 own))[i]? = some s → s.own = true → (wipeE ρ2 own)[i]? = some s ∧ (wipe σ (own.map (·.2)))[i]? = σ[i]? := by
  have key : ∀ (i : Nat) s, (backE ρ1 own (wipeE ρ2 own))[i]? = some s → s.own = true → (wipeE ρ2 own)[i]? = some s ∧ (wipe σ (own.map (·.2)))[i]? = σ[i]? := fun i s e o => by
    rcases backE_get (ρ := wipeE ρ2 own) (ρ0 := ρ1) (j := i) (own := own) with z | ⟨d, _, _, z⟩
    · rw [z] at e
      refine ⟨e, ?_⟩
      rw [wipeE_get] at e
      rw [wipe_get]
      by_cases y : i ∈ own.map (·.2)
      · rw [if_pos y] at e
        by_cases hl : i < ρ2.length
        · rw [if_pos hl] at e
          cases e
          cases o
        · rw [if_neg hl] at e
          cases e
      · rw [if_neg y]
    · rw [z] at e
      cases e
      cases o
  refine ⟨R.re (by rw [backE_len, R.len, wipe_length]) (fun i s e => ?_) fun i s e o => ?_, key⟩
  · rcases backE_get (ρ := wipeE ρ2 own) (ρ0 := ρ1) (j := i) (own := own) with z | ⟨d, z1, _, z⟩
    · rw [z] at e
      have q := R.sl i s e
      rw [wipe_get] at q
      by_cases y : i ∈ own.map (·.2)
      · rw [wipeE_get, if_pos y] at e
        by_cases hl : i < ρ2.length
        · rw [if_pos hl] at e
          cases e
          trivial
        · rw [if_neg hl] at e
          cases e
      · rw [if_neg y] at q
        exact q
    · rw [z] at e
      cases e
      obtain ⟨x, ex, rx⟩ := R1.sl i _ z1
      exact ⟨x, ex, rx.mono m⟩
  · obtain ⟨a, b⟩ := key i s e o
    exact ⟨s, a, o, b.symm⟩
theorem Rl.updD {D : Addr} {o o' : HO} (R : Rl cl K c F ρ σ H) (b : Beside c F ρ σ H D o) : Rl cl K c F ρ σ (upd H D o') ∧ Beside c F ρ σ (upd H D o') D o' := by
  have ne : ∀ {a : Addr}, F a = none ∨ True → a ≠ D → (upd H D o') a = H a := fun _ z => upd_ne z
  refine ⟨⟨R.len, fun a u e => ?_, R.f0, R.fn, fun a u e n => ?_, fun i s e => ?_, R.ap, fun j a z => ⟨(R.io j a z).1, fun e => ?_⟩⟩, b.h0, b.f, upd_same, b.ne⟩
  · rw [upd_ne (ne_of_none e b.f)]
    exact R.fh a u e
  · rw [upd_ne (ne_of_none e b.h0)]
    exact R.kp a u e n
  · have q := R.sl i s e
    have hne : ∀ a : Addr, s.own = true → σ[i]? = some (some (V.ref a)) → a ≠ D := fun a o z y => b.ne i s e o (by rw [← y]; exact z)
    cases s with
    | top => trivial
    | sh d => exact q
    | bo ds => exact q
    | bd ds => exact q
    | ow ds =>
      obtain ⟨a, vs, e1, h0, hf, hh, r⟩ := q
      exact ⟨a, vs, e1, h0, hf, by rw [upd_ne (hne a rfl e1)]; exact hh, r⟩
    | io ds =>
      obtain ⟨a, vs, e1, h0, hf, hh, r⟩ := q
      exact ⟨a, vs, e1, h0, hf, by rw [upd_ne (hne a rfl e1)]; exact hh, r⟩
    | dc ds =>
      obtain ⟨a, vs, e1, h0, hf, hh, r⟩ := q
      exact ⟨a, vs, e1, h0, hf, by rw [upd_ne (hne a rfl e1)]; exact hh, r⟩
    | on dss => exact q
    | al o j ds => exact q
  · by_cases y : a = D
    · rw [y, upd_same] at e
      cases e
    · rw [upd_ne y] at e
      exact (R.io j a z).2 e
theorem Beside.wiped {own : List (Str × Nat)} {D : Addr} {o : HO} (b : Beside c F ρ σ H D o) : Beside c F (wipeE ρ own) (wipe σ (own.map (·.2))) H D o := by
  refine ⟨b.h0, b.f, b.h, fun i s e ow => ?_⟩
  rw [wipeE_get] at e
  rw [wipe_get]
  by_cases y : i ∈ own.map (·.2)
  · rw [if_pos y] at e
    by_cases hl : i < ρ.length
    · rw [if_pos hl] at e
      cases e
      cases ow
    · rw [if_neg hl] at e
      cases e
  · rw [if_neg y] at e ⊢
    exact b.ne i s e ow
theorem CLe.refl : CLe c c := fun _ _ e n => ⟨c.gB _ _ e, n⟩
theorem exl0 {c : Ct} {F : Hp} {σ : L2.St} {W : WX} : ExL cl K c F σ W nEx := fun _ _ _ _ _ _ z => z.elim
/-- the loop of a comprehension, on plain data and on the heap -/
theorem lc_loop {it : I} {t : T} {fs : Bs} {ee : E} {own : List (Str × Nat)} {Q : VK} (hsub : ∀ i ∈ tIx t, i ∈ own.map (·.2)) (h : tE Γ cl K W (.lc ee t it fs own) σ H Q) :
    tLc (tI' Γ cl K W it) (tG cl K t) (tF' Γ cl K WF fs) (tE Γ cl K WF ee) (own.map (·.2)) σ H Q := by
  obtain ⟨c, F, ρ, Q0, X0, R0, h, q, hx⟩ := h
  refine ⟨c, F, ρ, _, X0, R0, h, fun ds ρ1 F1 J H1 z m1 R1 wk => ?_, hx⟩
  obtain ⟨_, Wv, w0, step, fin⟩ := z
  intro A0 hD
  have hi : ∀ j, (j, A0) ∉ c.ios := fun j y => (R1.io j A0 y).2 hD
  refine ⟨fun i m H => m = ds.length - i ∧ i ≤ ds.length ∧ ∃ (F' : Hp) (ρ2 : En) (acc : List D) (vs : List V), Same F1 F' ∧ Rl cl K c F' (wipeE ρ2 own) (wipe σ (own.map (·.2))) H ∧ Wv i acc (wipeE ρ2 own) ∧
    Beside c F' (wipeE ρ2 own) (wipe σ (own.map (·.2))) H A0 (.lst vs) ∧ Reps cl K F' vs acc, ⟨ds.length, rfl, Nat.zero_le _, F1, ρ1, [], [], Same.refl F1, (R1.alloc hD).wiped, w0, ?_, .nil⟩, ?_⟩
  · exact Beside.wiped ⟨R1.new0 hD, R1.newF hD, upd_same, fun i s e o => R1.ne_own hD i s e o⟩
  · rintro i m H2 ⟨rfl, hle, F2, ρ2, acc, vs, m2, R2, wv, b, ra⟩
    by_cases hlt : i < ds.length
    · have e : ds[i]? = some ds[i] := List.getElem?_eq_getElem hlt
      generalize ds[i] = d at e
      refine .inr ⟨wk.go c F2 _ _ H2 i d CLe.refl m2 R2 e, fun H' => _, fun H' nx => ⟨ds.length - (i + 1), by omega, nx⟩, fun x H3 y => ?_⟩
      obtain ⟨F3, m3, R3, rx⟩ := wk.yld (c.pin A0 (.lst vs) b.h0) F2 _ _ H2 i d x H3 (pin_le b.h0) m2 (R2.pin b) e y
      refine ⟨c.pin A0 (.lst vs) b.h0, F3, _, d, _, R3, rx, step i acc _ d e wv, fun ρ3 σ3 z3 R4 o3 => ?_⟩
      have ws : wipe σ3 (own.map (·.2)) = wipe σ (own.map (·.2)) := (o3.2 _ hsub).trans wipe_wipe
      refine ⟨ws, c.pin A0 (.lst vs) b.h0, F3, ρ3, _, nEx, R4, z3, fun t ρ4 F4 H4 z4 m4 R5 => ?_, exl0⟩
      have f0 : ∀ {F ρ σ H}, Rl cl K (c.pin A0 (.lst vs) b.h0) F ρ σ H → c.F0 A0 = none := fun R => by
        cases e : c.F0 A0 with
        | none => rfl
        | some u =>
          have := R2.f0 A0 u e
          rw [b.f] at this
          cases this
      cases t with
      | false =>
        dsimp only
        rw [if_neg Bool.false_ne_true]
        rw [if_neg Bool.false_ne_true] at z4
        obtain ⟨R6, b6⟩ := R5.unpin (f0 R5) hi
        have R7 := R6.wiped (own := own)
        have b7 := b6.wiped (own := own)
        rw [ws] at R7 b7
        exact ⟨rfl, hlt, F4, ρ4, acc, vs, (m2.trans m3).trans m4, R7, z4, b7, ra.mono (m3.trans m4)⟩
      | true =>
        dsimp only
        rw [if_pos (rfl : true = true)]
        rw [if_pos (rfl : true = true)] at z4
        refine ⟨c.pin A0 (.lst vs) b.h0, F4, ρ4, _, nEx, R5, z4, fun r ρ5 F5 y5 H5 z5 m5 R6 r6 => ?_, exl0⟩
        obtain ⟨d', ρ6, ek, hll, z6⟩ := w2_of z5
        obtain ⟨F6, m6, R7, r7⟩ := r6.keep R6 ek
        obtain ⟨R8, b8⟩ := R7.unpin (f0 R7) hi
        refine ⟨vs, b8.h, by rw [ra.len, sizeLine_line]; exact hll, ?_⟩
        obtain ⟨R9, b9⟩ := R8.updD (o' := .lst (vs ++ [y5])) b8
        have R10 := R9.wiped (own := own)
        have b10 := b9.wiped (own := own)
        rw [ws] at R10 b10
        exact ⟨rfl, hlt, F6, ρ6, acc ++ [d'], vs ++ [y5], (((m2.trans m3).trans m4).trans m5).trans m6, R10, z6, b10, (ra.mono (((m3.trans m4).trans m5).trans m6)).app (.cons r7 .nil)⟩
    · have e : i = ds.length := by omega
      subst e
      refine .inl ⟨wk.stop c F2 _ _ H2 CLe.refl m2 R2, ?_⟩
      obtain ⟨R3, key⟩ := R1.back m2 R2
      refine q _ _ F2 (.ref A0) H2 (fin acc _ wv) (m1.trans m2) R3 ⟨A0, vs, rfl, b.h0, b.f, b.h, ra, fun i s e o => ?_⟩
      obtain ⟨e1, e2⟩ := key i s e o
      rw [← e2]
      exact b.ne i s e1 o
/-- [.. for .. in .. if ..] -/
theorem e_lc {elt iter : Expr} {ifs : List Expr} {scope : Scope} {it : I} {t : T} {fs : Bs} {ee : E} {own : List (Str × Nat)} (G : Gd X Γ cl g k W) (hsub : ∀ i ∈ tIx t, i ∈ own.map (·.2)) (hi : PI X tg iter (tI' Γ cl X.K W it)) (ok : BlkOk X.N X.env.scope scope own)
    (hg : ∀ (s : Shared) (H : Hp) (C : Addr) (cc : List (Str × Addr)) (fp : List Addr), PG (X.blk s H scope (compEnvC scope cc C X.env) fp) tg (tG cl X.K t)) (ht : ∀ (s : Shared) (H : Hp) (C : Addr) (cc : List (Str × Addr)) (fp : List Addr), PTs (X.blk s H scope (compEnvC scope cc C X.env) fp) ifs (tF' Γ cl X.K WF fs))
    (he : ∀ (s : Shared) (H : Hp) (C : Addr) (cc : List (Str × Addr)) (fp : List Addr), PE (X.blk s H scope (compEnvC scope cc C X.env) fp) elt (tE Γ cl X.K WF ee)) (hs : ∀ x, foldedSetIterable iter X.env x = pure x) :
    PE X (.ListComp elt [⟨tg, iter, ifs, 0⟩] scope pos) (tE Γ cl X.K W (.lc ee t it fs own)) :=
  PE.weak (pe_lc G.calm G.nd hi ok hg ht he hs) fun σ H Q h => lc_loop hsub h
theorem Gd.blk {s : Shared} {H : Hp} {scope : Scope} {cenv : PySem.Env} {fp : List Addr} (G : Gd X Γ cl g k W) : Gd (X.blk s H scope cenv fp) Γ cl g k WF :=
  ⟨G.nd, G.calm, L2.takes0, G.gd, G.rm, G.bn, G.fn, G.fk, G.cls, G.fld, G.mt, G.pr, G.mkr, G.iti, G.itl, G.isk, G.isn, G.un, G.ex, G.xi, G.xf⟩
end
end M
set_option linter.all false
set_option Elab.async false
set_option maxRecDepth 10000
/-! MiniL: statements. -/
namespace M
open PySem PySem.Spec PyProof.Rows L2
/-- what is wanted, on plain data and on the heap -/
structure PoB (cl : Str → Addr → Prop) (K : PySem.W.Frag) (W : WX) (c : Ct) (F : Hp) (P : Po) (D : Ends) : Prop where
  nx : ∀ ρ F' σ H, P.nx ρ → Same F F' → Rl cl K c F' ρ σ H → D.nx σ H
  rt : ∀ r ρ F' σ v H, P.rt r ρ → Same F F' → Rl cl K c F' ρ σ H → ResR cl K c F' ρ σ H v r → D.rt v H
  bk : ∀ ρ F' σ H, P.bk ρ → Same F F' → Rl cl K c F' ρ σ H → D.bk σ H
  ct : ∀ ρ F' σ H, P.ct ρ → Same F F' → Rl cl K c F' ρ σ H → D.ct σ H
  ex : ∀ x ρ F' σ H cc d, P.ex x ρ → Same F F' → Rl cl K c F' ρ σ H → ExnR cl K F' H x cc d → W cc d σ H
/-- the same call, with other lists of lists -/
structure Xt (c c' : Ct) : Prop where
  f0 : c'.F0 = c.F0
  ios : c'.ios = c.ios
  b : c'.B = c.B
  bl : c'.bl = c.bl
theorem Xt.refl (c : Ct) : Xt c c := ⟨rfl, rfl, rfl, rfl⟩
theorem Xt.trans {c c1 c2 : Ct} (h : Xt c c1) (g : Xt c1 c2) : Xt c c2 := ⟨g.f0.trans h.f0, g.ios.trans h.ios, g.b.trans h.b, g.bl.trans h.bl⟩
theorem Xt.cle {c c' : Ct} (h : Xt c c') : CLe c c' := fun a o e n => ⟨c'.gB a o (by rw [h.b]; exact e), fun j => by rw [h.ios]; exact n j⟩
structure PoR (cl : Str → Addr → Prop) (K : PySem.W.Frag) (W : WX) (c : Ct) (F : Hp) (P : Po) (D : Ends) : Prop extends PoB cl K W c F P D where
  up : ∀ c', Xt c c' → PoB cl K W c' F P D
theorem PoR.of {cl : Str → Addr → Prop} {K : PySem.W.Frag} {W : WX} {c : Ct} {F : Hp} {P : Po} {D : Ends} (h : ∀ c', Xt c c' → PoB cl K W c' F P D) : PoR cl K W c F P D := ⟨h c (Xt.refl c), h⟩
section
variable {X : Cx} {Γ : Tb} {cl : Str → Addr → Prop} {K : PySem.W.Frag} {W : WX} {c : Ct} {F F' H H' : Hp} {ρ : En} {σ : L2.St} {v u : V} {pos p apos : Pos} {g : Bool} {k : Nat} {s : Shared} {pins : List (Addr × Obj)} {tg : Expr} {P : Po} {EE : Ends}
theorem PoB.mono (h : PoB cl K W c F P EE) (m : Same F F') : PoB cl K W c F' P EE :=
  ⟨fun ρ F2 σ H a b => h.nx ρ F2 σ H a (m.trans b), fun r ρ F2 σ v H a b => h.rt r ρ F2 σ v H a (m.trans b), fun ρ F2 σ H a b => h.bk ρ F2 σ H a (m.trans b), fun ρ F2 σ H a b => h.ct ρ F2 σ H a (m.trans b), fun x ρ F2 σ H cc d a b => h.ex x ρ F2 σ H cc d a (m.trans b)⟩
theorem PoR.mono (h : PoR cl K W c F P EE) (m : Same F F') : PoR cl K W c F' P EE := .of fun c' x => (h.up c' x).mono m
theorem PoR.at {c' : Ct} (h : PoR cl K W c F P EE) (x : Xt c c') : PoR cl K W c' F P EE := .of fun c2 x2 => h.up c2 (x.trans x2)
theorem PoR.exl (h : PoR cl K W c F P EE) : ExL cl K c F σ W P.ex := fun x ρ' F' H' cc d a b r e => h.ex x ρ' F' σ H' cc d a b r e
def tS (Γ : Tb) (cl : Str → Addr → Prop) (K : PySem.W.Frag) (W : WX) (st : S) : TS := fun D σ H => ∃ (c : Ct) (F : Hp) (ρ : En) (P : Po), Rl cl K c F ρ σ H ∧ dS Γ st ρ P ∧ PoR cl K W c F P D
def tSs (Γ : Tb) (cl : Str → Addr → Prop) (K : PySem.W.Frag) (W : WX) (st : Ss) : TS := fun D σ H => ∃ (c : Ct) (F : Hp) (ρ : En) (P : Po), Rl cl K c F ρ σ H ∧ dSs Γ st ρ P ∧ PoR cl K W c F P D
theorem PS.weak {st : Stmt} {t t' : TS} (h : PS X st t) (w : ∀ D σ H, t' D σ H → t D σ H) : PS X st t' := ⟨fun pins s σ H D I q => h.run pins s σ H D I (w D σ H q)⟩
theorem PSs.weak {st : List Stmt} {t t' : TS} (h : PSs X st t) (w : ∀ D σ H, t' D σ H → t D σ H) : PSs X st t' := ⟨fun pins s σ H D I q => h.run pins s σ H D I (w D σ H q)⟩

/-! ### rows of statements -/
theorem ss_nil : PSs X [] (tSs Γ cl X.K W .nil) := PSs.weak pss_nil fun D σ H ⟨c, F, ρ, P, R0, h, q⟩ => q.nx ρ F σ H h (Same.refl F) R0
theorem ss_cons {st : Stmt} {rest : List Stmt} {a : S} {r : Ss} (h1 : PS X st (tS Γ cl X.K W a)) (h2 : PSs X rest (tSs Γ cl X.K W r)) : PSs X (st :: rest) (tSs Γ cl X.K W (.cons a r)) :=
  PSs.weak (pss_cons h1 h2) fun D σ H ⟨c, F, ρ, P, R0, h, q⟩ => ⟨c, F, ρ, _, R0, h, .of fun c' x => ⟨fun ρ1 F1 σ1 H1 z m R1 => ⟨c', F1, ρ1, P, R1, z, (q.at x).mono m⟩, (q.up c' x).rt, (q.up c' x).bk, (q.up c' x).ct, (q.up c' x).ex⟩⟩
theorem s_pass : PS X (.Pass pos) (tS Γ cl X.K W .pass) := PS.weak ps_pass fun D σ H ⟨c, F, ρ, P, R0, h, q⟩ => q.nx ρ F σ H h (Same.refl F) R0
theorem s_brk : PS X (.Break pos) (tS Γ cl X.K W .brk) := PS.weak ps_break fun D σ H ⟨c, F, ρ, P, R0, h, q⟩ => q.bk ρ F σ H h (Same.refl F) R0
theorem s_cnt : PS X (.Continue pos) (tS Γ cl X.K W .cnt) := PS.weak ps_continue fun D σ H ⟨c, F, ρ, P, R0, h, q⟩ => q.ct ρ F σ H h (Same.refl F) R0
theorem s_dead {st : Stmt} : PS X st (tS Γ cl X.K W .dead) := PS.weak ps_never fun D σ H ⟨c, F, ρ, P, R0, h, q⟩ => h
theorem s_ret {e : Expr} {ee : E} (he : PE X e (tE Γ cl X.K W ee)) : PS X (.Return (some e) pos) (tS Γ cl X.K W (.ret ee)) :=
  PS.weak (ps_ret he) fun D σ H ⟨c, F, ρ, P, R0, h, q⟩ => ⟨c, F, ρ, _, _, R0, h, fun r ρ1 F1 v H1 z m R1 rr => q.rt r ρ1 F1 σ v H1 z m R1 rr, q.exl⟩
theorem s_retn : PS X (.Return none pos) (tS Γ cl X.K W .retn) := PS.weak ps_retN fun D σ H ⟨c, F, ρ, P, R0, h, q⟩ => q.rt _ ρ F σ _ H h (Same.refl F) R0 .non
theorem s_if {e : Expr} {a b : List Stmt} {ec : B} {sa sb : Ss} (hc : PT X e (tB' Γ cl X.K W ec)) (ha : PSs X a (tSs Γ cl X.K W sa)) (hb : PSs X b (tSs Γ cl X.K W sb)) : PS X (.If e a b pos) (tS Γ cl X.K W (.iff ec sa sb)) :=
  PS.weak (ps_if hc ha hb) fun D σ H ⟨c, F, ρ, P, R0, h, q⟩ => ⟨c, F, ρ, _, _, R0, h, fun t ρ1 F1 H1 z m R1 => by
    cases t with
    | true =>
      rw [if_pos (rfl : true = true)] at z ⊢
      exact ⟨c, F1, ρ1, P, R1, z, q.mono m⟩
    | false =>
      rw [if_neg Bool.false_ne_true] at z ⊢
      exact ⟨c, F1, ρ1, P, R1, z, q.mono m⟩, q.exl⟩
theorem s_ex {e : Expr} {ee : E} (he : PE X e (tE Γ cl X.K W ee)) (hs : swapsWith e none pos.line X.env = pure false) : PS X (.Expr e pos) (tS Γ cl X.K W (.ex ee)) :=
  PS.weak (ps_expr he hs) fun D σ H ⟨c, F, ρ, P, R0, h, q⟩ => ⟨c, F, ρ, _, _, R0, h, fun r ρ1 F1 v H1 z m R1 rr => q.nx ρ1 F1 σ H1 z m R1, q.exl⟩

/-! ### names are bound -/
theorem setSl_core {i : Nat} {r : R} {Q : En → Prop} (R0 : Rl cl K c F ρ σ H) (rr : ResR cl K c F ρ σ H v r) (h : setSl i r ρ Q) : ∃ F' ρ', Same F F' ∧ Rl cl K c F' ρ' (σ.set i (some v)) H ∧ Q ρ' := by
  obtain ⟨_, h⟩ := h
  cases r with
  | sh d => exact ⟨F, _, Same.refl F, R0.put rr, h⟩
  | fr ds =>
    obtain ⟨a, vs, rfl, h0, hf, hh, rs, ne⟩ := rr
    refine ⟨F, _, Same.refl F, ?_, h⟩
    by_cases hi : i < σ.length
    · exact R0.store hi ⟨a, vs, rfl, h0, hf, hh, rs⟩ fun _ j s _ e o => ne j s e o
    · rw [List.set_eq_of_length_le (by rw [R0.len]; omega), List.set_eq_of_length_le (by omega)]
      exact R0
  | fd kvs =>
    obtain ⟨a, vs, rfl, h0, hf, hh, rs, ne⟩ := rr
    refine ⟨F, _, Same.refl F, ?_, h⟩
    by_cases hi : i < σ.length
    · exact R0.store hi ⟨a, vs, rfl, h0, hf, hh, rs⟩ fun _ j s _ e o => ne j s e o
    · rw [List.set_eq_of_length_le (by rw [R0.len]; omega), List.set_eq_of_length_le (by omega)]
      exact R0
  | br j =>
    have h : (match keep ρ (.br j) with
      | some (d, ρ1) => Q (ρ1.set i (.sh d))
      | none => False) := h
    cases e : keep ρ (.br j) with
    | none =>
      rw [e] at h
      exact h.elim
    | some dd =>
      obtain ⟨d, ρ1⟩ := dd
      rw [e] at h
      obtain ⟨F', m, R1, r1⟩ := rr.keep R0 e
      exact ⟨F', _, m, R1.put r1, h⟩
theorem asg_nm {i : Nat} {ee : E} (h : tS Γ cl K W (.asg (.nm i) ee) EE σ H) : tAsg (tE Γ cl K W ee) (gName i) EE σ H := by
  obtain ⟨c, F, ρ, P, R0, h, q⟩ := h
  refine ⟨c, F, ρ, fun r ρ1 => setSl i r ρ1 P.nx, _, R0, h, fun r ρ1 F1 v H1 z m R1 rr => ?_, q.exl⟩
  obtain ⟨F2, ρ2, m2, R2, z⟩ := setSl_core R1 rr z
  exact q.nx ρ2 F2 _ H1 z (m.trans m2) R2
theorem s_set {i : Nat} {x : Str} {e : Expr} {ee : E} {p' : Pos} (hN : X.N.Nodup) (hi : X.N[i]? = some x) (hx : X.env.scope.names.lookup x = some .local ∨ (X.env.scope.names.lookup x = some .cell ∧ X.fn x = true)) (he : PE X e (tE Γ cl X.K W ee))
    (hs : swapsWith e (some (.Name x p')) pos.line X.env = pure false) : PS X (.Assign [.Name x p'] e pos) (tS Γ cl X.K W (.asg (.nm i) ee)) :=
  PS.weak (ps_set hN hi (hx.imp id (·.1)) he hs (hx.elim .inr fun z => .inl z.2)) fun D σ H h => asg_nm h
theorem s_setLc {i : Nat} {x : Str} {p' : Pos} {elt iter : Expr} {ifs : List Expr} {scope : Scope} {it : I} {t : T} {fs : Bs} {ee : E} {own : List (Str × Nat)} {p2 : Pos} (G : Gd X Γ cl g k W) (hi0 : X.N[i]? = some x) (hx : X.env.scope.names.lookup x = some .local)
    (hsw : swapsWith (.ListComp elt [⟨tg, iter, ifs, 0⟩] scope p2) (some (.Name x p')) pos.line X.env = pure true) (hsub : ∀ i ∈ tIx t, i ∈ own.map (·.2)) (hi : PI X tg iter (tI' Γ cl X.K W it)) (ok : BlkOk X.N X.env.scope scope own)
    (hg : ∀ (s : Shared) (H : Hp) (C : Addr) (cc : List (Str × Addr)) (fp : List Addr), PG (X.blk s H scope (compEnvC scope cc C X.env) fp) tg (tG cl X.K t)) (ht : ∀ (s : Shared) (H : Hp) (C : Addr) (cc : List (Str × Addr)) (fp : List Addr), PTs (X.blk s H scope (compEnvC scope cc C X.env) fp) ifs (tF' Γ cl X.K WF fs))
    (he : ∀ (s : Shared) (H : Hp) (C : Addr) (cc : List (Str × Addr)) (fp : List Addr), PE (X.blk s H scope (compEnvC scope cc C X.env) fp) elt (tE Γ cl X.K WF ee)) (hs : ∀ x, foldedSetIterable iter X.env x = pure x) :
    PS X (.Assign [.Name x p'] (.ListComp elt [⟨tg, iter, ifs, 0⟩] scope p2) pos) (tS Γ cl X.K W (.asg (.nm i) (.lc ee t it fs own))) :=
  PS.weak (ps_setLc G.calm G.nd hi0 hx hsw hi ok hg ht he hs) fun D σ H h => lc_loop hsub (asg_nm h)
theorem s_asgT {e : Expr} {ee : E} {a r : T} (he : PE X e (tE Γ cl X.K W ee)) (hg : PG X tg (tG cl X.K (.tp a r))) (hs : swapsWithSole [tg] e pos.line X.env = pure false) (hw : swappedStores [tg] e X.env = pure none) (h1 : (assignEach [tg] X.env).map (·.2) = [assign tg X.env]) :
    PS X (.Assign [tg] e pos) (tS Γ cl X.K W (.asg (.tp a r) ee)) :=
  PS.weak (ps_asg he hg hs hw h1) fun D σ H ⟨c, F, ρ, P, R0, h, q⟩ => ⟨c, F, ρ, fun rr ρ1 => w2 (keep ρ1 rr) fun d ρ2 => dTg (.tp a r) d ρ2 P.nx, _, R0, h, fun rr ρ1 F1 v H1 z m R1 r1 => by
    obtain ⟨d, ρ2, ek, z⟩ := w2_of z
    obtain ⟨F2, m2, R2, r2⟩ := r1.keep R1 ek
    exact ⟨c, F2, ρ2, d, _, R2, r2, z, fun ρ3 σ3 z3 R3 _ => q.nx ρ3 F2 σ3 H1 z3 (m.trans m2) R3⟩, q.exl⟩
theorem s_par {i j : Nat} {x y : Str} {a b : Expr} {ea eb : E} {px py pt : Pos} {kt k2 pt2} (hc : X.calm = true) (hN : X.N.Nodup) (hi : X.N[i]? = some x) (hj : X.N[j]? = some y) (hij : i ≠ j) (hx : X.env.scope.names.lookup x = some .local) (hy : X.env.scope.names.lookup y = some .local)
    (ha : PE X a (tE Γ cl X.K W ea)) (hb : PE X b (tE Γ cl X.K W eb)) (hs1 : starEach [a, b] X.env = (false, eval a X.env) :: starEach [b] X.env) (hs2 : starEach [b] X.env = (false, eval b X.env) :: starEach [] X.env)
    (hw : swappedStores [.Tuple [.Name x px, .Name y py] kt pt] (.Tuple [a, b] k2 pt2) X.env = pure (some [x, y])) (hs : swapsWithSole [.Tuple [.Name x px, .Name y py] kt pt] (.Tuple [a, b] k2 pt2) pos.line X.env = pure false) :
    PS X (.Assign [.Tuple [.Name x px, .Name y py] kt pt] (.Tuple [a, b] k2 pt2) pos) (tS Γ cl X.K W (.par i j ea eb)) :=
  PS.weak (ps_par hc hN hi hj hij hx hy (pa_cons ha (pa_cons hb pa_nil hs2) hs1) hw hs) fun D σ H ⟨c, F, ρ, P, R0, h, q⟩ => by
    refine twoH (f := fun ra rb ρ2 => w2 (keep ρ2 ra) fun x ρ3 => w2 (keep ρ3 rb) fun y ρ4 => i ≠ j ∧ isIo ρ4[i]? = false ∧ isIo ρ4[j]? = false ∧ P.nx ((ρ4.set i (.sh x)).set j (.sh y))) R0 h q.exl fun ra rb ρ2 F2 v u H2 z m R2 r1 r2 => ?_
    obtain ⟨d, ρ3, e1, z⟩ := w2_of z
    obtain ⟨d', ρ4, e2, _, _, _, z⟩ := w2_of z
    obtain ⟨F3, m3, R3, p3⟩ := r1.keep R2 e1
    obtain ⟨F4, m4, R4, p4⟩ := (r2.mono m3).keep R3 e2
    exact ⟨v, u, rfl, q.nx _ F4 _ H2 z ((m.trans m3).trans m4) ((R4.put (p3.mono m4)).put p4)⟩
end
end M
set_option linter.all false
set_option Elab.async false
set_option maxRecDepth 10000
/-! MiniM: stores into lists, loops. -/
namespace M
open PySem PySem.Spec PyProof.Rows L2
section
variable {X : Cx} {Γ : Tb} {cl : Str → Addr → Prop} {K : PySem.W.Frag} {W : WX} {c : Ct} {F F' H H' : Hp} {ρ : En} {σ : L2.St} {v u : V} {pos p apos : Pos} {g : Bool} {k : Nat} {s : Shared} {pins : List (Addr × Obj)} {tg : Expr} {P : Po} {EE : Ends}
/-! ### a list that one may change -/
theorem mutw_core {a : Addr} {i : Nat} {t : Sl} {ob : HO} (R0 : Rl cl K c F ρ σ H) (e : ρ[i]? = some t) (ow : t.own = true) (hv : σ[i]? = some (some (V.ref a))) (hf : F a = none) (hh : H a = some ob) (h0 : c.H0 a = none ∨ ∃ j, (j, a) ∈ c.ios) {ob' : HO} {t' : Sl} (ow' : t'.own = true)
    (sl : SlR cl K c F (upd H a ob') i (some (some (V.ref a))) t') : Rl cl K c F (ρ.set i t') σ (upd H a ob') := by
  have hi : i < ρ.length := (List.getElem?_eq_some_iff.mp e).1
  have other : ∀ (j : Nat) (s : Sl) (b : Addr), j ≠ i → ρ[j]? = some s → s.own = true → σ[j]? = some (some (V.ref b)) → b ≠ a := fun j s b n e2 o2 z y => R0.ap j i s t b n e2 e o2 ow z (by rw [y]; exact hv)
  refine ⟨by rw [List.length_set]; exact R0.len, fun b w z => ?_, R0.f0, R0.fn, fun b w z n => ?_, fun j s ej => ?_, fun j l s s' b n e1 e2 o1 o2 z1 z2 => ?_, fun j b z => ⟨(R0.io j b z).1, fun y => ?_⟩⟩
  · rw [upd_ne (ne_of_none z hf)]
    exact R0.fh b w z
  · have y : b ≠ a := fun y => by
      subst y
      rcases h0 with h0 | ⟨l, h0⟩
      · rw [h0] at z
        cases z
      · exact n l h0
    rw [upd_ne y]
    exact R0.kp b w z n
  · by_cases y : i = j
    · subst y
      rw [List.getElem?_set_self hi] at ej
      cases ej
      rw [hv]
      exact sl
    · rw [List.getElem?_set_ne y] at ej
      have q := R0.sl j s ej
      cases s with
      | top => trivial
      | sh d => exact q
      | bo ds => exact q
      | bd ds => exact q
      | ow ds =>
        obtain ⟨b, ws, e1, x1, x2, x3, r⟩ := q
        exact ⟨b, ws, e1, x1, x2, by rw [upd_ne (other j _ b (Ne.symm y) ej rfl e1)]; exact x3, r⟩
      | io ds =>
        obtain ⟨b, ws, e1, x1, x2, x3, r⟩ := q
        exact ⟨b, ws, e1, x1, x2, by rw [upd_ne (other j _ b (Ne.symm y) ej rfl e1)]; exact x3, r⟩
      | dc ds =>
        obtain ⟨b, ws, e1, x1, x2, x3, r⟩ := q
        exact ⟨b, ws, e1, x1, x2, by rw [upd_ne (other j _ b (Ne.symm y) ej rfl e1)]; exact x3, r⟩
      | on dss => exact q
      | al o j ds => exact q
  · have back : ∀ (j : Nat) (s : Sl), (ρ.set i t')[j]? = some s → s.own = true → ∃ s0, ρ[j]? = some s0 ∧ s0.own = true := fun j s e o => by
      by_cases y : i = j
      · subst y
        exact ⟨t, by assumption, ow⟩
      · rw [List.getElem?_set_ne y] at e
        exact ⟨s, e, o⟩
    obtain ⟨s0, f1, g1⟩ := back j s e1 o1
    obtain ⟨s1, f2, g2⟩ := back l s' e2 o2
    exact R0.ap j l s0 s1 b n f1 f2 g1 g2 z1 z2
  · by_cases yy : b = a
    · rw [yy, upd_same] at y
      cases y
    · rw [upd_ne yy] at y
      exact (R0.io j b z).2 y
theorem Rl.mutw {r : R} {ds : List D} {f : List D → En} (R0 : Rl cl K c F ρ σ H) (h : mutL ρ r = some (ds, f)) (rr : Held cl K F σ v r) : ∃ a vs, v = .ref a ∧ H a = some (.lst vs) ∧ F a = none ∧ Reps cl K F vs ds ∧ ∀ vs' ds', Reps cl K F vs' ds' → Rl cl K c F (f ds') σ (upd H a (.lst vs')) := by
  cases r with
  | br i =>
    have h : (match ρ[i]? with
      | some (.ow ds) => some (ds, fun es => ρ.set i (.ow es))
      | some (.io ds) => some (ds, fun es => ρ.set i (.io es))
      | _ => none) = some (ds, f) := h
    cases e : ρ[i]? with
    | none =>
      rw [e] at h
      cases h
    | some t =>
      have q := R0.sl i t e
      have hv : σ[i]? = some (some v) := rr
      cases t with
      | ow ds0 =>
        rw [e] at h
        cases h
        obtain ⟨a, vs, e1, h0, hf, hh, rs⟩ := q
        rw [hv] at e1
        cases e1
        exact ⟨a, vs, rfl, hh, hf, rs, fun vs' ds' r' => mutw_core R0 e rfl hv hf hh (.inl h0) rfl ⟨a, vs', rfl, h0, hf, upd_same, r'⟩⟩
      | io ds0 =>
        rw [e] at h
        cases h
        obtain ⟨a, vs, e1, h0, hf, hh, rs⟩ := q
        rw [hv] at e1
        cases e1
        exact ⟨a, vs, rfl, hh, hf, rs, fun vs' ds' r' => mutw_core R0 e rfl hv hf hh (.inr ⟨_, h0⟩) rfl ⟨a, vs', rfl, h0, hf, upd_same, r'⟩⟩
      | _ =>
        rw [e] at h
        cases h
  | _ => cases h
/-- a method of a list, its receiver by a list that one may change -/
theorem mut_keep {r re : R} {ds : List D} {d : D} {f : List D → En} {ρ1 : En} (R0 : Rl cl K c F ρ σ H) (ek : keep ρ re = some (d, ρ1)) (r1 : ResR cl K c F ρ σ H v re) (h : mutL ρ1 r = some (ds, f)) (rr : Held cl K F σ u r) :
    ∃ F' a vs, Same F F' ∧ Rl cl K c F' ρ1 σ H ∧ Rep cl K F' v d ∧ u = .ref a ∧ H a = some (.lst vs) ∧ F' a = none ∧ Reps cl K F' vs ds ∧ ∀ vs' ds', Reps cl K F' vs' ds' → Rl cl K c F' (f ds') σ (upd H a (.lst vs')) := by
  obtain ⟨F', m, R1, rp⟩ := r1.keep R0 ek
  obtain ⟨a, vs, e1, e2, e3, e4, e5⟩ := R1.mutw h (rr.mono m)
  exact ⟨F', a, vs, m, R1, rp, e1, e2, e3, e4, e5⟩
/-- o's list is there -/
theorem mut_ty {r : R} (R0 : Rl cl K c F ρ σ H) (h : (mutL ρ r).isSome = true) (rr : Held cl K F σ v r) : tyV K "list" v H := by
  cases e : mutL ρ r with
  | none =>
    rw [e] at h
    cases h
  | some df =>
    obtain ⟨ds, f⟩ := df
    obtain ⟨a, vs, rfl, hh, _⟩ := R0.mutw e rr
    exact .inl ⟨rfl, vs, .of hh⟩
/-- the receiver is held while the argument is reckoned -/
theorem twoM {T : String} {eo ee : E} {X0 : QX} {f : R → R → En → Prop} {Q : V → V → Hp → Prop} (R0 : Rl cl X.K c F ρ σ H) (h : dE Γ eo ρ (fun ro ρ1 => (mutL ρ1 ro).isSome = true ∧ dE Γ ee ρ1 (fun re ρ2 => f ro re ρ2) X0) X0) (hT : T = "list") (hx : ExL cl X.K c F σ W X0)
    (q : ∀ ro re ρ2 F2 v u H2, f ro re ρ2 → Same F F2 → Rl cl X.K c F2 ρ2 σ H2 → Held cl X.K F2 σ v ro → ResR cl X.K c F2 ρ2 σ H2 u re → Q v u H2) :
    tE Γ cl X.K W eo σ H fun v H1 => tyV X.K T v H1 ∧ tE Γ cl X.K W ee σ H1 fun u H2 => Q v u H2 := by
  subst hT
  refine ⟨c, F, ρ, _, X0, R0, h, fun ra ρ1 F1 v H1 h1 m1 R1 r1 => ?_, hx⟩
  obtain ⟨F1', m1', R1', hl⟩ := r1.held R1
  exact ⟨mut_ty R1' h1.1 hl, c, F1', ρ1, _, X0, R1', h1.2, fun rb ρ2 F2 u H2 h2 m2 R2 r2 => q ra rb ρ2 F2 v u H2 h2 ((m1.trans m1').trans m2) R2 (hl.mono m2) r2, hx.mono (m1.trans m1')⟩
def few (cpos : Pos) (e : Expr) (env : PySem.Env) : Prop := ((backTo cpos (starEach [e] env)).all (fun x => !x.1) && (backToKw cpos (keywordEach [] env)).all (fun x => x.1.isSome)
      && decide ([e].length + ([] : List Keyword).length + (if ([] : List Keyword).isEmpty then 0 else 1) < 30)) = true
theorem s_app {o e : Expr} {eo ee : E} {cpos : Pos} (ho : PE X o (tE Γ cl X.K W eo)) (he : PE X e (tE Γ cl X.K W ee)) (hbase : attributeBase o "append" X.env (eval o X.env) = eval o X.env)
    (hline : (apos.endLine == cpos.line) = true) (hst : starEach [e] X.env = (false, eval e X.env) :: starEach [] X.env) (hfew : few cpos e X.env) : PS X (.Expr (.Call (.Attribute o "append" apos) [e] [] cpos) pos) (tS Γ cl X.K W (.app eo ee)) :=
  PS.weak (ps_expr (pe_bm PySem.F.plainAttrs_list PySem.F.slot_list_append PySem.F.type_list_append mt_append ho (pa_cons he pa_nil hst) hbase hfew hline hst rfl) rfl) fun D σ H ⟨c, F, ρ, P, R0, h, q⟩ => by
    refine twoM (f := fun ro re ρ2 => w2 (keep ρ2 re) fun d ρ3 => w2 (mutL ρ3 ro) fun ds f => ds.length < line ∧ P.nx (f (ds ++ [d]))) R0 h rfl q.exl fun ro re ρ2 F2 v u H2 z m R2 r1 r2 => ?_
    obtain ⟨d, ρ3, e1, z⟩ := w2_of z
    obtain ⟨ds, f, e2, hl, z⟩ := w2_of z
    obtain ⟨F3, a, vs, m3, R3, rp, rfl, hh, hf, rs, fin⟩ := mut_keep R2 e1 r2 e2 r1
    exact ⟨a, vs, u, rfl, rfl, hh, by rw [rs.len, sizeLine_line]; exact hl, q.nx _ F3 _ _ z (m.trans m3) (fin _ _ (rs.app (.cons rp .nil)))⟩
theorem s_ext {o e : Expr} {eo ee : E} {cpos : Pos} (ho : PE X o (tE Γ cl X.K W eo)) (he : PE X e (tE Γ cl X.K W ee)) (hbase : attributeBase o "extend" X.env (eval o X.env) = eval o X.env)
    (hline : (apos.endLine == cpos.line) = true) (hst : starEach [e] X.env = (false, eval e X.env) :: starEach [] X.env) (hfew : few cpos e X.env) : PS X (.Expr (.Call (.Attribute o "extend" apos) [e] [] cpos) pos) (tS Γ cl X.K W (.ext eo ee)) :=
  PS.weak (ps_expr (pe_bm PySem.F.plainAttrs_list PySem.F.slot_list_extend PySem.F.type_list_extend mt_extend ho (pa_cons he pa_nil hst) hbase hfew hline hst rfl) rfl) fun D σ H ⟨c, F, ρ, P, R0, h, q⟩ => by
    refine twoM (f := fun ro re ρ2 => w2 (keep ρ2 re) fun d ρ3 => wL (some d) fun es => w2 (mutL ρ3 ro) fun ds f => ds.length + es.length ≤ line ∧ P.nx (f (ds ++ es))) R0 h rfl q.exl fun ro re ρ2 F2 v u H2 z m R2 r1 r2 => ?_
    obtain ⟨d, ρ3, e1, z1⟩ := w2_of z
    obtain ⟨es, ed, z2⟩ := wL_of z1
    obtain ⟨ds, f, e2, hl, z3⟩ := w2_of z2
    cases ed
    obtain ⟨F3, a, vs, m3, R3, rp, rfl, hh, hf, rs, fin⟩ := mut_keep R2 e1 r2 e2 r1
    cases rp with
    | lst h1 h2 => exact ⟨a, _, vs, _, rfl, rfl, hh, R3.fh _ _ h1, by rw [rs.len, h2.len, sizeLine_line]; exact hl, q.nx _ F3 _ _ z3 (m.trans m3) (fin _ _ (rs.app h2))⟩
theorem s_pop {i : Nat} {x : Str} {o : Expr} {eo : E} {cpos p' : Pos} (hN : X.N.Nodup) (hi : X.N[i]? = some x) (hx : X.env.scope.names.lookup x = some .local ∨ (X.env.scope.names.lookup x = some .cell ∧ X.fn x = true)) (ho : PE X o (tE Γ cl X.K W eo)) (hbase : attributeBase o "pop" X.env (eval o X.env) = eval o X.env)
    (hline : (apos.endLine == cpos.line) = true) : PS X (.Assign [.Name x p'] (.Call (.Attribute o "pop" apos) [] [] cpos) pos) (tS Γ cl X.K W (.pop i eo)) :=
  PS.weak (ps_set hN hi (hx.imp id (·.1)) (pe_bm0 PySem.F.plainAttrs_list PySem.F.slot_list_pop PySem.F.type_list_pop mt_pop ho hbase hline) rfl (hx.elim .inr fun z => .inl z.2)) fun D σ H ⟨c, F, ρ, P, R0, h, q⟩ => by
    refine ⟨c, F, ρ, fun ro ρ1 => w2 (mutL ρ1 ro) fun ds f => w1 ds.getLast? fun d => isIo (f ds.dropLast)[i]? = false ∧ P.nx ((f ds.dropLast).set i (.sh d)), _, R0, h, fun ro ρ1 F1 v H1 z m R1 r1 => ?_, q.exl⟩
    obtain ⟨F2, m2, R2, hl⟩ := r1.held R1
    obtain ⟨ds, f, e2, z⟩ := w2_of z
    obtain ⟨d, e3, _, z⟩ := w1_of z
    have ty := mut_ty R2 (by rw [e2] <;> rfl) hl
    obtain ⟨a, vs, rfl, hh, hf, rs, fin⟩ := R2.mutw e2 hl
    have e4 : ds[ds.length - 1]? = some d := by rw [← List.getLast?_eq_getElem?]; exact e3
    obtain ⟨w, ew, rw'⟩ := rs.get e4
    refine ⟨ty, a, vs, w, rfl, rfl, hh, by rw [rs.len]; exact ew, ?_⟩
    have R3 := fin vs.dropLast ds.dropLast (by rw [List.dropLast_eq_take, List.dropLast_eq_take, rs.len]; exact rs.take _)
    exact q.nx _ F2 _ _ z (m.trans m2) (R3.put rw')
/-! ### o[i] = e -/
theorem s_set_ix {o i e : Expr} {eo ei ee : E} {p' : Pos} (ho : PE X o (tE Γ cl X.K W eo)) (hi : PE X i (tE Γ cl X.K W ei)) (he : PE X e (tE Γ cl X.K W ee))
    (ha : ∀ v, assign (.Subscript o i p') X.env v = (do
      let a ← holding [v] (eval o X.env)
      let b ← holding [v, a] (eval i X.env)
      standAt p'
      holding [v, a, b] (setItem a b v)
      release [v, a, b] [])) (hs : swapsWithSole [.Subscript o i p'] e pos.line X.env = pure false) (hw : swappedStores [.Subscript o i p'] e X.env = pure none) (h1 : (assignEach [.Subscript o i p'] X.env).map (·.2) = [assign (.Subscript o i p') X.env]) :
    PS X (.Assign [.Subscript o i p'] e pos) (tS Γ cl X.K W (.set eo ei ee)) :=
  PS.weak (ps_asg he (pg_sub ho hi set_list ha) hs hw h1) fun D σ H ⟨c, F, ρ, P, R0, h, q⟩ => by
    refine ⟨c, F, ρ, fun re ρ1 => dE Γ eo ρ1 (fun ro ρ2 => dE Γ ei ρ2 (fun ri ρ3 => wI (val ρ3 ri) fun k => w2 (keep ρ3 re) fun d ρ4 => w2 (mutL ρ4 ro) fun ds f => w1 (L2.ixN ds.length k) fun j => P.nx (f (ds.set j d))) P.ex) P.ex, _, R0, h, fun re ρ1 F1 v H1 z m R1 r1 => ?_, q.exl⟩
    obtain ⟨F1', m1, R1', hl1⟩ := r1.held R1
    have m1 := m.trans m1
    refine twoH (f := fun ro ri ρ3 => wI (val ρ3 ri) fun k => w2 (keep ρ3 re) fun d ρ4 => w2 (mutL ρ4 ro) fun ds f => w1 (L2.ixN ds.length k) fun j => P.nx (f (ds.set j d))) R1' z (q.exl.mono m1) fun ro ri ρ3 F3 u w H3 z m3 R3 hl2 hl3 => ?_
    obtain ⟨k, ek, z⟩ := wI_of z
    obtain ⟨d, ρ4, e1, z⟩ := w2_of z
    obtain ⟨ds, f, e2, z⟩ := w2_of z
    obtain ⟨j, e3, z⟩ := w1_of z
    have ew := vw_int (hl3.vw R3 ek)
    obtain ⟨F4, m4, R4, rp⟩ := (hl1.mono m3).keep R3 e1
    obtain ⟨a, vs, rfl, hh, hf, rs, fin⟩ := R4.mutw e2 ((hl2.mono m4))
    exact ⟨a, vs, k, j, rfl, ew, hh, by rw [rs.len]; exact e3, q.nx _ F4 _ _ z ((m1.trans m3).trans m4) (fin _ _ (rs.set rp j))⟩
/-! ### op= -/
def augK : Op → Operator
  | .sub => .Sub
  | _ => .Add
theorem aug_rule {op : Op} {x y : Int} {k : Int → Prop} (h : augI op x y k) : ∃ t : Int → Int → Int, PIp X (augK op) (ipI t) ∧ k (t x y) := by
  cases op with
  | add => exact ⟨fun i j => i + j, ip_add, h⟩
  | sub => exact ⟨fun i j => i - j, ip_sub, h⟩
  | _ => exact h.elim
def ipO (op : Op) : TIp := fun x y H Q => ∃ i j, x = V.int i ∧ y = V.int j ∧ augI op i j fun z => Q (.int z) H
theorem ip_op {op : Op} : PIp X (augK op) (ipO op) := by
  intro pins s σ H x y v u Q I r1 r2 h
  obtain ⟨i, j, rfl, rfl, h⟩ := h
  cases op with
  | add => exact ip_add pins s σ H _ _ v u Q I r1 r2 ⟨i, j, rfl, rfl, h⟩
  | sub => exact ip_sub pins s σ H _ _ v u Q I r1 r2 ⟨i, j, rfl, rfl, h⟩
  | _ => exact h.elim
theorem augI_imp {op : Op} {x y : Int} {k k' : Int → Prop} (h : augI op x y k) (w : ∀ z, k z → k' z) : augI op x y k' := by
  cases op with
  | add => exact w _ h
  | sub => exact w _ h
  | _ => exact h.elim
theorem slI_of {s : Option Sl} {k : Int → Prop} (h : slI s k) : ∃ i, s = some (.sh (.int i)) ∧ k i := by
  unfold slI at h
  split at h
  · exact ⟨_, rfl, h⟩
  · exact h.elim
theorem s_aug {i : Nat} {x : Str} {op : Op} {e : Expr} {ee : E} {p' : Pos} (hN : X.N.Nodup) (hi : X.N[i]? = some x) (hx : X.env.scope.names.lookup x = some .local ∨ (X.env.scope.names.lookup x = some .cell ∧ X.fn x = true)) (he : PE X e (tE Γ cl X.K W ee)) :
    PS X (.AugAssign (.Name x p') (augK op) e pos) (tS Γ cl X.K W (.aug i op ee)) :=
  PS.weak (ps_aug hN hi (hx.imp id (·.1)) he ip_op (hx.elim .inr fun z => .inl z.2)) fun D σ H ⟨c, F, ρ, P, R0, h, q⟩ => by
    obtain ⟨a, ea, h⟩ := slI_of h
    obtain ⟨w, ew, rw'⟩ := R0.sl i _ ea
    cases rw'
    refine ⟨_, ew, c, F, ρ, fun re ρ1 => wI (val ρ1 re) fun y => augI op a y fun z => isIo ρ1[i]? = false ∧ P.nx (ρ1.set i (.sh (.int z))), _, R0, h, fun re ρ1 F1 v H1 z m R1 r1 => ?_, q.exl⟩
    obtain ⟨y, ey, z⟩ := wI_of z
    exact ⟨a, y, rfl, vw_int (r1.vw R1 ey), augI_imp z fun t z => q.nx _ F1 _ _ z.2 m (R1.put (.int t))⟩
theorem get_list : PGet X (fun o i H Q => ∃ a vs j w, o = V.ref a ∧ i = V.int j ∧ SqL X.K H a vs ∧ atI vs j = some w ∧ Q w H) := by
  intro pins s σ H o i ov iv Q I ro ri h
  obtain ⟨a, vs, j, w, rfl, rfl, hq, he, q⟩ := h
  cases ro
  obtain ⟨t, rfl⟩ := ri
  obtain ⟨its, r, pl, hz⟩ := I.list hq
  obtain ⟨n, h1, h2, h3, h4, h5⟩ := atI_get he
  obtain ⟨uw, eu, ru⟩ := r.get h2
  have hl := r.length
  have ln := line63
  by_cases h0 : 0 ≤ j
  · rw [seqIndex_of h0 h5] at h1
    have e1 : j.toNat = n := Option.some.inj h1
    exact wpAny_getItem_list pl.isList h0 (by omega) (by rw [e1, List.getElem?_toArray]; exact eu) ⟨w, H, I, ru, q⟩
  · rw [seqIndex_neg (by omega) h4] at h1
    have e1 : (j + (its.toArray.size : Int)).toNat = n := by
      rw [List.size_toArray, ← hl]
      exact Option.some.inj h1
    exact wpAny_getItem_list_neg pl.isList (by omega) (by rw [List.size_toArray] <;> omega) (by omega) (by rw [e1, List.getElem?_toArray]; exact eu) ⟨w, H, I, ru, q⟩
theorem s_augs {o i e : Expr} {eo ei ee : E} {op : Op} {tpos : Pos} (ho : PE X o (tE Γ cl X.K W eo)) (hi : PE X i (tE Γ cl X.K W ei)) (he : PE X e (tE Γ cl X.K W ee))
    (ha : ∀ ov iv new, augStore i ov iv new = (do holding [new, ov, iv] (setItem ov iv new); release [new, ov, iv] []; pure .next)) : PS X (.AugAssign (.Subscript o i tpos) (augK op) e pos) (tS Γ cl X.K W (.augs eo ei op ee)) :=
  PS.weak (ps_augS ho hi get_list he ip_op set_list ha) fun D σ H ⟨c, F, ρ, P, R0, h, q⟩ => by
    refine twoH (f := fun ro ri ρ2 => wI (val ρ2 ri) fun k => w2 (mutL ρ2 ro) fun ds _ => w1 (L2.ixN ds.length k) fun j => wI ds[j]? fun x =>
      dE Γ ee ρ2 (fun re ρ3 => wI (val ρ3 re) fun y => w2 (mutL ρ3 ro) fun ds' f => ds' = ds ∧ augI op x y fun z => P.nx (f (ds.set j (.int z)))) P.ex) R0 h q.exl fun ro ri ρ2 F2 v u H2 z m R2 h1 h2 => ?_
    obtain ⟨k, ek, z⟩ := wI_of z
    obtain ⟨ds, f, e2, z⟩ := w2_of z
    obtain ⟨j, e3, z⟩ := w1_of z
    obtain ⟨x, ex, z⟩ := wI_of z
    have eu := vw_int (h2.vw R2 ek)
    subst eu
    obtain ⟨a, vs, rfl, hh, hf, rs, _⟩ := R2.mutw e2 h1
    obtain ⟨w, ew, rw'⟩ := rs.get ex
    cases rw'
    have eat : atI vs k = some (V.int x) := by
      unfold atI
      rw [rs.len, e3]
      exact ew
    refine ⟨a, vs, k, _, rfl, rfl, .of hh, eat, c, F2, ρ2, _, _, R2, z, fun re ρ3 F3 v3 H3 z m3 R3 r3 => ?_, q.exl.mono m⟩
    obtain ⟨y, ey, z⟩ := wI_of z
    obtain ⟨ds', f', e4, eds, z⟩ := w2_of z
    subst eds
    obtain ⟨a', vs', ea', hh', hf', rs', fin⟩ := R3.mutw e4 (h1.mono m3)
    cases ea'
    refine ⟨x, y, rfl, vw_int (r3.vw R3 ey), augI_imp z fun t z => ⟨a, vs', k, j, rfl, rfl, hh', by rw [rs'.len]; exact e3, ?_⟩⟩
    exact q.nx _ F3 _ _ z (m.trans m3) (fin _ _ (rs'.set (.int t) j))

/-! ### loops -/
theorem s_whl {e : Expr} {body : List Stmt} {ec : B} {sb : Ss} (hp : PassesOwn (model X.prog X.w) X.A X.env X.xe) (hc : PT X e (tB' Γ cl X.K W ec)) (hb : PSs X body (tSs Γ cl X.K W sb)) : PS X (.While e body [] pos) (tS Γ cl X.K W (.whl ec sb)) :=
  PS.weak (ps_while hp hc hb) fun D σ H ⟨c, F, ρ, P, R0, h, q⟩ => by
    obtain ⟨Wv, ⟨m0, w0⟩, step⟩ := h
    refine ⟨fun m σ H => ∃ c' F' ρ', Xt c c' ∧ Same F F' ∧ Rl cl X.K c' F' ρ' σ H ∧ Wv m ρ', ⟨m0, c, F, ρ, Xt.refl c, Same.refl F, R0, w0⟩, fun m σ1 H1 ⟨c1, F1, ρ1, x1, m1, R1, w1⟩ => ?_⟩
    have q := q.at x1
    refine ⟨c1, F1, ρ1, _, _, R1, step m ρ1 w1, fun t ρ2 F2 H2 z m2 R2 => ?_, (q.mono m1).exl⟩
    cases t with
    | true =>
      rw [if_pos (rfl : true = true)] at z ⊢
      refine ⟨_, fun σ' H' h => h, c1, F2, ρ2, _, R2, z, PoR.of fun c2 x2 => ?_⟩
      have q2 := (q.mono (m1.trans m2)).up c2 x2
      exact ⟨fun ρ3 F3 σ3 H3 ⟨m', hm, w3⟩ m3 R3 => ⟨m', hm, c2, F3, ρ3, x1.trans x2, (m1.trans m2).trans m3, R3, w3⟩, q2.rt, q2.nx, fun ρ3 F3 σ3 H3 ⟨m', hm, w3⟩ m3 R3 => ⟨m', hm, c2, F3, ρ3, x1.trans x2, (m1.trans m2).trans m3, R3, w3⟩, q2.ex⟩
    | false =>
      rw [if_neg Bool.false_ne_true] at z ⊢
      exact (q.mono m1).nx ρ2 F2 σ1 H2 z m2 R2
theorem s_for {iter : Expr} {body : List Stmt} {it : I} {t : T} {sb : Ss} (hp : PassesOwn (model X.prog X.w) X.A X.env X.xe) (hc : X.calm = true) (hi : PI X tg iter (tI' Γ cl X.K W it)) (hg : PG X tg (tG cl X.K t)) (hb : PSs X body (tSs Γ cl X.K W sb)) (hs : ∀ x, foldedSetIterable iter X.env x = pure x) :
    PS X (.For tg iter body [] pos) (tS Γ cl X.K W (.forr t it sb)) :=
  PS.weak (ps_for hp hc hi hg hb hs) fun D σ H ⟨c, F, ρ, P, R0, h, q⟩ => by
    refine ⟨c, F, ρ, _, _, R0, h, fun ds ρ1 F1 J H1 z m1 R1 wk => ?_, q.exl⟩
    obtain ⟨Wv, w0, step, fin⟩ := z
    refine ⟨fun i m σ H => m = ds.length - i ∧ i ≤ ds.length ∧ ∃ c' F' ρ', Xt c c' ∧ Same F1 F' ∧ Rl cl X.K c' F' ρ' σ H ∧ Wv i ρ', ⟨ds.length, rfl, Nat.zero_le _, c, F1, ρ1, Xt.refl c, Same.refl F1, R1, w0⟩, ?_⟩
    rintro i m σ2 H2 ⟨rfl, hle, c1, F2, ρ2, x1, m2, R2, wv⟩
    have q := q.at x1
    by_cases hlt : i < ds.length
    · have e : ds[i]? = some ds[i] := List.getElem?_eq_getElem hlt
      generalize ds[i] = d at e
      refine .inr ⟨wk.go c1 F2 _ _ H2 i d x1.cle m2 R2 e, fun σ' H' => _, fun σ' H' nx => ⟨ds.length - (i + 1), by omega, nx⟩, fun x H3 y => ?_⟩
      obtain ⟨F3, m3, R3, rx⟩ := wk.yld c1 F2 _ _ H2 i d x H3 x1.cle m2 R2 e y
      refine ⟨c1, F3, _, d, _, R3, rx, step i _ d e wv, fun ρ4 σ4 z4 R4 _ => ?_⟩
      have mm := (m1.trans m2).trans m3
      refine ⟨c1, F3, ρ4, _, R4, z4, PoR.of fun c2 x2 => ?_⟩
      have q2 := (q.mono mm).up c2 x2
      exact ⟨fun ρ5 F5 σ5 H5 w5 m5 R5 => ⟨rfl, hlt, c2, F5, ρ5, x1.trans x2, (m2.trans m3).trans m5, R5, w5⟩, q2.rt, q2.nx, fun ρ5 F5 σ5 H5 w5 m5 R5 => ⟨rfl, hlt, c2, F5, ρ5, x1.trans x2, (m2.trans m3).trans m5, R5, w5⟩, q2.ex⟩
    · have e : i = ds.length := by omega
      subst e
      exact .inl ⟨wk.stop c1 F2 _ _ H2 x1.cle m2 R2, q.nx ρ2 F2 σ2 H2 (fin ρ2 wv) (m1.trans m2) R2⟩
end
end M
set_option linter.all false
set_option Elab.async false
set_option maxRecDepth 10000
/-! MiniMx: exceptions raised and caught; keywords; list(range(..)). -/
namespace M
open PySem PySem.Spec PyProof.Rows L2
section
variable {X : Cx} {Γ : Tb} {cl : Str → Addr → Prop} {W : WX} {g : Bool} {k : Nat} {pos p p2 : Pos}
theorem PK.weak {kws : List Keyword} {t t' : TA} (h : PK X kws t) (w : ∀ σ H Q, t' σ H Q → t σ H Q) : PK X kws t' := ⟨fun pos pins s σ H Q I q => h.run pos pins s σ H Q I (w σ H Q q)⟩
/-- the keywords' values, n of them -/
def tEsL (Γ : Tb) (cl : Str → Addr → Prop) (K : PySem.W.Frag) (W : WX) (e : Es) (n : Nat) : TA := fun σ H Q => tEs Γ cl K W e σ H fun zs H' => zs.length = n → Q zs H'
theorem k_nil : PK X [] (tEsL Γ cl X.K W .nil 0) := PK.weak pk_nil fun σ H Q ⟨c, F, ρ, Q0, X0, R0, h, q, hx⟩ => q _ _ F _ H h (Same.refl F) R0 .nil rfl
theorem k_cons {e : Expr} {kws : List Keyword} {nm : Option Str} {kp : Pos} {ee : E} {er : Es} {n : Nat} (he : PE X e (tE Γ cl X.K W ee)) (hr : PK X kws (tEsL Γ cl X.K W er n)) : PK X (⟨nm, e, kp⟩ :: kws) (tEsL Γ cl X.K W (.cons ee er) (n + 1)) := by
  refine PK.weak (pk_cons he hr) fun σ H Q ⟨c, F, ρ, Q0, X0, R0, h, q, hx⟩ => ?_
  refine oneE R0 h hx fun r ρ1 F1 v H1 z m R1 rr => ?_
  obtain ⟨F2, m2, R2, hl⟩ := rr.held R1
  refine oneA R2 z (hx.mono (m.trans m2)) fun rs ρ3 F3 vs H3 z3 m3 R3 hs3 hn => ?_
  exact q _ _ F3 _ H3 z3 ((m.trans m2).trans m3) R3 (.cons (hl.mono m3) hs3) (congrArg Nat.succ hn)
theorem Helds.app {K : PySem.W.Frag} {F : Hp} {σ : L2.St} : ∀ {vs rs us qs}, Helds cl K F σ vs rs → Helds cl K F σ us qs → Helds cl K F σ (vs ++ us) (rs ++ qs)
  | _, _, _, _, .nil, h => h
  | _, _, _, _, .cons a r, h => .cons a (Helds.app r h)
/-- f(.., k = v, ..) -/
theorem e_callk {x : Str} {ks : List Str} {fn : Fn} {e : Expr} {es : List Expr} {kws : List Keyword} {ee ke : Es} (G : Gd X Γ cl g k W) (hf : Γ.fk x ks = some fn) (hg : Gl X x) (ha : PA X (e :: es) (tEs Γ cl X.K W ee)) (hkw : PK X kws (tEsL Γ cl X.K W ke ks.length))
    (hall : (backToKw pos (keywordEach kws X.env)).all (·.1.isSome) = true) (hks : (backToKw pos (keywordEach kws X.env)).filterMap (·.1) = ks) (hdb : (x == ("__debug__" : Str)) = false)
    (he : starEach (e :: es) X.env = (false, eval e X.env) :: starEach es X.env) (hpl : ((backTo pos (starEach (e :: es) X.env)).any (·.1) || (backToKw pos (keywordEach kws X.env)).any (·.1.isNone)) = false) :
    PE X (.Call (.Name x p) (e :: es) kws pos) (tE Γ cl X.K W (.callk x ee ks ke)) := by
  refine ⟨fun pins s σ H Q I ⟨c, F, ρ, Q0, X0, R0, h, q, hx⟩ => ?_⟩
  obtain ⟨f, fd, ps, dvs, ds, hm, hk, hd, hb, Fn⟩ := G.fk x ks fn hf
  refine wpAny_Call_Name_kw (ld_glob I hg hm ?_ hdb)
  have args := ha.run pos pins s σ H (fun vs H1 => tEsL Γ cl X.K W ke ks.length σ H1 fun zs H2 => zs.length = ks.length ∧ spOf cl X.K fn (vs ++ zs) H2 Q (WE W σ)) I (oneA R0 h hx fun rs ρ1 F1 vs H1 z m R1 hs => oneA R1 z (hx.mono m) fun qs ρ2 F2 zs H2 z2 m2 R2 hs2 hn =>
    ⟨hn, call_core R2 ((hs.mono m2).app hs2) (by rw [hf] at z2; exact z2) (fun r ρ' F' v H' y m' => q r ρ' F' v H' y ((m.trans m2).trans m')) (hx.mono (m.trans m2))⟩)
  refine PySem.W.callWith_KW (h₀ := X.base) I.ok.mod.kin hk hall (thn args fun us s1 ⟨vs, H1, I1, r, y⟩ => ?_) hpl he
  refine thn (hkw.run pos pins s1 σ H1 _ I1 y) fun ws s2 ⟨zs, H2, I2, rz, hz, y2⟩ => ⟨I2.kIn, ?_⟩
  rw [hks]
  exact run_g (ks := ks) (dvs := dvs) Fn G.low G.gd hb hd (passAt G.tk σ) I2 r rz hz ⟨vs ++ zs, rfl, y2⟩

/-! ### list(range(..)) -/
theorem reps_map {K : PySem.W.Frag} {F : Hp} {f : Nat → Int} : ∀ l : List Nat, Reps cl K F (l.map fun i => V.int (f i)) (l.map fun i => D.int (f i))
  | [] => .nil
  | i :: l => .cons (.int _) (reps_map l)
theorem lrg_core {K : PySem.W.Frag} {c : Ct} {F1 : Hp} {ρ1 : En} {σ : L2.St} {H1 : Hp} {i j : Int} {Q0 : QE} {Q : VK} {F : Hp} (R1 : Rl cl K c F1 ρ1 σ H1) (m : Same F F1) (z : Q0 (.fr (rngD i j)) ρ1) (q : ∀ r ρ' F' v H', Q0 r ρ' → Same F F' → Rl cl K c F' ρ' σ H' → ResR cl K c F' ρ' σ H' v r → Q v H') :
    ∀ p, H1 p = none → Q (.ref p) (upd H1 p (.lst (rgV i j))) := fun p hp => by
  have rp : Reps cl K F1 (rgV i j) (rngD i j) := reps_map (f := fun n => i + (n : Int)) _
  obtain ⟨R2, r2⟩ := R1.fresh hp rp
  exact q _ _ _ _ _ z m R2 r2
theorem line24 {n : Nat} (h : n ≤ line) : n ≤ 2 ^ 24 := h
theorem e_lrg1 {a : Expr} {ee : E} {p4 : Pos} (G : Gd X Γ cl g k W) (hl : Gl X "list") (hg : Gl X "range") (ha : PE X a (tE Γ cl X.K W ee)) (hs : starEach [a] X.env = [(false, eval a X.env)]) : PE X (.Call (.Name "list" p) [.Call (.Name "range" p2) [a] [] p4] [] pos) (tE Γ cl X.K W (.lrg (.cons ee .nil))) := by
  refine PE.weak (pe_listRg G.calm hl (G.bn _ (by decide +kernel)) (prg_1 hg (G.bn _ (by decide +kernel)) ha hs) rfl) fun σ H Q ⟨c, F, ρ, Q0, X0, R0, h, q, hx⟩ => ?_
  refine oneE (f := fun r ρ1 => rngA (vals ρ1 [r]) fun i j => (j - i).toNat ≤ line ∧ Q0 (.fr (rngD i j)) ρ1) R0 h hx fun r ρ1 F1 v H1 z m R1 rr => ?_
  unfold rngA at z
  split at z
  · rename_i j e
    obtain ⟨d, e1, ev⟩ := vals1_of e
    cases e1
    obtain ⟨⟨b1, b2⟩, b3, z⟩ := z
    exact ⟨j, vw_int (rr.vw R1 ev), ⟨by omega, by omega, b1, b2, line24 b3⟩, lrg_core R1 m z q⟩
  · rename_i i j e
    obtain ⟨d, e1, ev⟩ := vals1_of e
    cases e1
  · exact z.elim
theorem e_lrg2 {a b : Expr} {ea eb : E} {p4 : Pos} (G : Gd X Γ cl g k W) (hl : Gl X "list") (hg : Gl X "range") (ha : PE X a (tE Γ cl X.K W ea)) (hb : PE X b (tE Γ cl X.K W eb)) (hs : starEach [a, b] X.env = (false, eval a X.env) :: starEach [b] X.env) (hs2 : starEach [b] X.env = [(false, eval b X.env)])
    (hp : (backTo p4 (starEach [b] X.env)).any (·.1) = false) : PE X (.Call (.Name "list" p) [.Call (.Name "range" p2) [a, b] [] p4] [] pos) (tE Γ cl X.K W (.lrg (.cons ea (.cons eb .nil)))) := by
  refine PE.weak (pe_listRg G.calm hl (G.bn _ (by decide +kernel)) (prg_2 hg (G.bn _ (by decide +kernel)) ha hb hs hs2 hp) rfl) fun σ H Q ⟨c, F, ρ, Q0, X0, R0, h, q, hx⟩ => ?_
  refine twoH (f := fun r r' ρ1 => rngA (vals ρ1 [r, r']) fun i j => (j - i).toNat ≤ line ∧ Q0 (.fr (rngD i j)) ρ1) R0 h hx fun r r' ρ1 F1 v u H1 z m R1 r1 r2 => ?_
  unfold rngA at z
  split at z
  · rename_i j e
    obtain ⟨d, d', e1, _⟩ := vals2_of e
    cases e1
  · rename_i i j e
    obtain ⟨d, d', e1, ev, ev'⟩ := vals2_of e
    cases e1
    obtain ⟨⟨b1, b2, b3, b4⟩, b5, z⟩ := z
    exact ⟨i, j, vw_int (r1.vw R1 ev), vw_int (r2.vw R1 ev'), ⟨b1, b2, b3, b4, line24 b5⟩, lrg_core R1 m z q⟩
  · exact z.elim

/-! ### raise -/
theorem passes_no : Passes (L2.CX X.prog X.w) X (fun _ _ _ => False) := fun _ _ _ _ _ _ _ z => by
  obtain ⟨_, _, _, _, _, _, _, _, _, _, _, _, no⟩ := z
  exact no.elim
theorem s_rais {c0 : Str} {e : Expr} {es : List Expr} {ee : Es} {fx : List D → Option (List (Str × D))} {pos' : Pos} (G : Gd X Γ cl g k W) (hf : Γ.exn c0 = some fx) (hg : Gl X c0) (ha : PA X (e :: es) (tEs Γ cl X.K W ee)) (hdb : (c0 == ("__debug__" : Str)) = false)
    (he : starEach (e :: es) X.env = (false, eval e X.env) :: starEach es X.env) (hpl : (backTo pos (starEach es X.env)).any (·.1) = false) : PS X (.Raise (some (.Call (.Name c0 p) (e :: es) [] pos)) none pos') (tS Γ cl X.K W (.rais c0 ee)) := by
  obtain ⟨hm, T, fI, fd, ps, sp, h1, h2, F1, hb, mk⟩ := G.ex c0 fx hf
  refine PS.weak (ps_raise G.calm G.tk (pmk_oex T h1 h2 F1 (G.rm.mono (Nat.le_succ _)) hb .nil passes_no hg hm ha hdb he hpl)) fun D σ H ⟨c, F, ρ, P, R0, h, q⟩ => ?_
  refine oneA R0 h q.exl fun rs ρ1 F1 vs H1 z m R1 hs => ?_
  obtain ⟨ds, ρ2, ek, hl, z⟩ := w2_of z
  obtain ⟨fx', e1, z⟩ := w1_of z
  rw [hf] at e1
  cases e1
  obtain ⟨es', e2, z⟩ := w1_of z
  obtain ⟨F2, m2, R2, rp⟩ := Helds.keep R1 hs ek
  refine ⟨by rw [rp.len]; exact hl, fun a ha => ?_⟩
  rw [List.append_nil]
  refine mk ds es' c F2 ρ2 σ vs H1 a (fun cls d H' => W cls d σ H') e2 R2 rp ha fun F' H' dx gs m3 R3 hd hgs => ?_
  exact q.ex ⟨c0, es'⟩ ρ2 F' σ H' _ _ z ((m.trans m2).trans m3) R3 ⟨rfl, .inr ⟨dx, gs, rfl, hd, hgs⟩⟩

/-! ### caught -/
theorem ExnR.mono {K : PySem.W.Frag} {F F' H H' : Hp} {x : Exn} {cc : Value} {d : Option Addr} (h : ExnR cl K F H x cc d) (m : Same F F') (n : Same H H') : ExnR cl K F' H' x cc d := by
  obtain ⟨e, h⟩ := h
  refine ⟨e, ?_⟩
  rcases h with h | ⟨dd, gs, h1, h2, h3⟩
  · exact .inl h
  · refine .inr ⟨dd, gs, h1, n _ _ h2, fun f e hl => ?_⟩
    obtain ⟨v, h4, h5⟩ := h3 f e hl
    exact ⟨v, h4, h5.mono m⟩
section
variable (Γ : Tb) (cl : Str → Addr → Prop) (K : PySem.W.Frag) (i : Nat) (a : Addr) (cls : Value) (d : Option Addr)
/-- where an except suite stands: slot i holds the exception x, at a -/
def SuR (c : Ct) (F : Hp) (ρ : En) (σ : L2.St) (H : Hp) (x : Exn) : Prop := Rl cl K c F ρ σ H ∧ σ[i]? = some (some (V.ref a)) ∧ ExnR cl K F H x cls d
def tHX (e : HX) : TE := fun σ H Q => ∃ c F ρ x v, SuR cl K i a cls d c F ρ σ H x ∧ hX Γ.isx Γ.xfl x e = some v ∧ ∀ F' H' u, Same F F' → SuR cl K i a cls d c F' ρ σ H' x → Rep cl K F' u v → Q u H'
def tHXs (e : HXs) : TA := fun σ H Q => ∃ c F ρ x vs, SuR cl K i a cls d c F ρ σ H x ∧ hXs Γ.isx Γ.xfl x e = some vs ∧ ∀ F' H' us, Same F F' → SuR cl K i a cls d c F' ρ σ H' x → Reps cl K F' us vs → Q us H'
def tHB (e : HB) : TT := fun σ H Q => ∃ c F ρ x b, SuR cl K i a cls d c F ρ σ H x ∧ hB Γ.isx x e = some b ∧ Q b H
def tHS (e : HS) : TS := fun D σ H => ∃ c F ρ x v, SuR cl K i a cls d c F ρ σ H x ∧ hS Γ.isx Γ.xfl x e = some v ∧ ∀ F' H' u, Same F F' → SuR cl K i a cls d c F' ρ σ H' x → Rep cl K F' u v → D.rt u H'
end
section
variable {i : Nat} {a : Addr} {cls : Value} {d : Option Addr} {oe : Obj} {pn : List (Addr × Obj)} {n y : Str} {p1 p3 : Pos}
/-- isinstance, of what an except suite holds -/
def rIsX (K : PySem.W.Frag) (a : Addr) (cls : Value) (d : Option Addr) : List V → Hp → VK → Prop := fun xs H Q => ∃ C Y b, xs = [V.ref a, V.ref Y] ∧ cls = .ref C ∧ XiC K C ∧ PySem.W.kitOne K (.ref C) (.ref Y) = some b ∧ (d = none ∨ ∃ dd gs, d = some dd ∧ H dd = some (.xd gs)) ∧ Q (.bl b) H
theorem call_isX (hz : Zc cls d oe) (hf : ∃ vs, oe.data = .fields vs) : CallR (X.suite a ((a, oe) :: pn)) (.builtin "isinstance") (rIsX X.K a cls d) := by
  intro pins s σ H xs us Q I r h
  obtain ⟨C, Y, b, rfl, rfl, XC, e, hd, q⟩ := h
  cases r with
  | cons rx rr =>
    cases rr with
    | cons rt rr =>
      cases rr
      cases rx
      cases rt
      obtain ⟨at_, _⟩ := I.pin (a, oe) (List.mem_append_left _ List.mem_cons_self)
      obtain ⟨vs, hv⟩ := hf
      have fin : ∀ od, PySem.W.InstAt s.heap a oe C od → wpAny (model X.prog X.w) (X.suite a ((a, oe) :: pn)).A (call (.builtin "isinstance") [.ref a, .ref Y]) (EP (X.suite a ((a, oe) :: pn)) pins σ Q) (X.suite a ((a, oe) :: pn)).xe s := fun od J => PySem.W.kia_one (PySem.W.kitx_exc (od := od) XC.cc XC.ga XC.gt XC.be XC.ha XC.hn XC.ht XC.hm) I.kIn J e (fun z => nomatch z) fun tk => ⟨.bl b, H, I.kept (t' := tk) fun _ _ z => z, rfl, q⟩
      have nc : PySem.W.notCls oe = true := by
        unfold PySem.W.notCls
        rw [hv] <;> rfl
      rcases hd with rfl | ⟨dd, gs, rfl, hd⟩
      · exact fin none ⟨at_, hz.1, nc, by rw [hz.2]; trivial⟩
      · have hx : ObjOk X.prog X.w H s.heap dd (.xd gs) := I.hok dd _ hd
        obtain ⟨mA, hns, _⟩ := hx
        obtain ⟨od, ho, _⟩ := lookIn_ns hns
        exact fin (some od) ⟨at_, hz.1, nc, by rw [hz.2]; exact ho⟩
theorem x_is (G : Gd X Γ cl g k W) (hz : Zc cls d oe) (hf : ∃ vs, oe.data = .fields vs) (hN : X.N[i]? = some n) (hv : Vis X.env.scope n) (h1 : (n == ("__debug__" : Str)) = false) (h2 : (n == ("__classdict__" : Str)) = false) (hg : Gl X "isinstance") (hy : Gl X y) (h3 : (y == ("__debug__" : Str)) = false) (hs : (Γ.isx y y).isSome = true) :
    PT (X.suite a ((a, oe) :: pn)) (.Call (.Name "isinstance" p) [.Name n p1, .Name y p2] [] pos) (tHB Γ cl X.K i a cls d (.is y)) := by
  obtain ⟨b0, e0⟩ := Option.isSome_iff_exists.mp hs
  have hm := (G.xi y y b0 e0).1
  have pa := pe_callB (X := X.suite a ((a, oe) :: pn)) (pos := pos) (p := p) (call_isX (X := X) (pn := pn) hz hf) hg (G.bn _ (by decide +kernel)) (by decide +kernel) (pa_cons (X := X.suite a ((a, oe) :: pn)) (pe_var (pos := p1) (i := i) hN hv h1 h2) (pa_cons (X := X.suite a ((a, oe) :: pn)) (pe_glob (pos := p2) (v := .ref (He.ga X.K y)) hy hm rfl h3) pa_nil rfl) rfl) (by decide +kernel) (by decide +kernel) rfl rfl
  refine PT.weak (pt_truth pa fun _ => rfl) fun σ H Q ⟨c, F, ρ, x, b, ⟨R, hσ, ex⟩, hb, q⟩ => ?_
  obtain ⟨_, h4, _, h5⟩ := G.xi x.cls y b hb
  obtain ⟨ec, ed⟩ := ex
  exact ⟨_, hσ, _, _, b, rfl, ec, h5, h4, ed.imp (fun z => z.1) fun ⟨dd, gs, e, e', _⟩ => ⟨dd, gs, e, e'⟩, b, rfl, q⟩
theorem x_att {f : Str} (G : Gd X Γ cl g k W) (hz : Zc cls d oe) (hf : ∃ vs, oe.data = .fields vs) (hN : X.N[i]? = some n) (hv : Vis X.env.scope n) (h1 : (n == ("__debug__" : Str)) = false) (h2 : (n == ("__classdict__" : Str)) = false) :
    PE (X.suite a ((a, oe) :: pn)) (.Attribute (.Name n p1) f pos) (tHX Γ cl X.K i a cls d (.att f)) := by
  refine ⟨fun pins s σ H Q I ⟨c, F, ρ, x, v, ⟨R, hσ, ex⟩, hx, q⟩ => ?_⟩
  have hx' : (if Γ.xfl x.cls f = true then x.fs.lookup f else none) = some v := hx
  split at hx'
  · rename_i hxf
    obtain ⟨T, hno⟩ := G.xf x.cls f hxf
    have ex' := ex
    obtain ⟨ec, ed⟩ := ex
    rcases ed with ⟨_, e⟩ | ⟨dd, gs, ed, hd, look⟩
    · rw [e] at hx'
      cases hx'
    · obtain ⟨w, hl, rp⟩ := look f v hx'
      exact (pe_xf (X := X) (pn := pn) T hno hz hf (pe_var (X := X.suite a ((a, oe) :: pn)) (pos := p1) (i := i) hN hv h1 h2)).run pins s σ H Q I ⟨_, hσ, rfl, ec, dd, gs, w, ed, hd, hl, q F H w (Same.refl F) ⟨R, hσ, ex'⟩ rp⟩
  · cases hx'
theorem x_tup {es : List Expr} {ks : HXs} {kk : Nat} (h : PA (X.suite a ((a, oe) :: pn)) es (tHXs Γ cl X.K i a cls d ks)) : PE (X.suite a ((a, oe) :: pn)) (.Tuple es kk pos) (tHX Γ cl X.K i a cls d (.tup ks)) := by
  refine PE.weak (pe_tup h) fun σ H Q ⟨c, F, ρ, x, v, R, hx, q⟩ => ?_
  have hx' : (match hXs Γ.isx Γ.xfl x ks with
    | some ds => if ds.length ≤ line then some (D.tup ds) else none
    | none => none) = some v := hx
  cases e : hXs Γ.isx Γ.xfl x ks with
  | none =>
    rw [e] at hx'
    cases hx'
  | some ds =>
    rw [e] at hx'
    dsimp only at hx'
    split at hx'
    · rename_i hl
      cases hx'
      refine ⟨c, F, ρ, x, ds, R, e, fun F' H' us m R' rp => ⟨by rw [rp.len, sizeLine_line]; exact hl, fun pp hp => ?_⟩⟩
      obtain ⟨R1, hσ, ex⟩ := R'
      obtain ⟨m3, R3, r3⟩ := R1.tuple hp rp
      exact q _ _ _ (m.trans m3) ⟨R3, hσ, ex.mono m3 (Same.upd hp)⟩ r3
    · cases hx'
theorem x_nil : PA (X.suite a ((a, oe) :: pn)) [] (tHXs Γ cl X.K i a cls d .nil) := PA.weak pa_nil fun σ H Q ⟨c, F, ρ, x, v, R, hx, q⟩ => by
  cases hx
  exact q F H [] (Same.refl F) R .nil
theorem x_cons {e : Expr} {es : List Expr} {b : HX} {r : HXs} (he : PE (X.suite a ((a, oe) :: pn)) e (tHX Γ cl X.K i a cls d b)) (hr : PA (X.suite a ((a, oe) :: pn)) es (tHXs Γ cl X.K i a cls d r)) (hs : starEach (e :: es) X.env = (false, eval e X.env) :: starEach es X.env) : PA (X.suite a ((a, oe) :: pn)) (e :: es) (tHXs Γ cl X.K i a cls d (.cons b r)) := by
  refine PA.weak (pa_cons he hr hs) fun σ H Q ⟨c, F, ρ, x, v, R, hx, q⟩ => ?_
  have hx' : (match hX Γ.isx Γ.xfl x b with
    | some d => (hXs Γ.isx Γ.xfl x r).map (d :: ·)
    | none => none) = some v := hx
  cases e1 : hX Γ.isx Γ.xfl x b with
  | none =>
    rw [e1] at hx'
    cases hx'
  | some d1 =>
    rw [e1] at hx'
    obtain ⟨ds, e2, rfl⟩ := Option.map_eq_some_iff.mp hx'
    exact ⟨c, F, ρ, x, d1, R, e1, fun F1 H1 u m R1 rp => ⟨c, F1, ρ, x, ds, R1, e2, fun F2 H2 us m2 R2 rps => q F2 H2 _ (m.trans m2) R2 (.cons (rp.mono m2) rps)⟩⟩
theorem x_ife {t e1 e2 : Expr} {hb : HB} {h1 h2 : HX} (ht : PT (X.suite a ((a, oe) :: pn)) t (tHB Γ cl X.K i a cls d hb)) (h : PE (X.suite a ((a, oe) :: pn)) e1 (tHX Γ cl X.K i a cls d h1)) (h' : PE (X.suite a ((a, oe) :: pn)) e2 (tHX Γ cl X.K i a cls d h2)) :
    PE (X.suite a ((a, oe) :: pn)) (.IfExp t e1 e2 pos) (tHX Γ cl X.K i a cls d (.ife hb h1 h2)) := by
  refine PE.weak (pe_ifExp ht h h') fun σ H Q ⟨c, F, ρ, x, v, R, hx, q⟩ => ?_
  have hx' : (match hB Γ.isx x hb with
    | some true => hX Γ.isx Γ.xfl x h1
    | some false => hX Γ.isx Γ.xfl x h2
    | none => none) = some v := hx
  cases e : hB Γ.isx x hb with
  | none =>
    rw [e] at hx'
    cases hx'
  | some b =>
    rw [e] at hx'
    refine ⟨c, F, ρ, x, b, R, e, ?_⟩
    cases b with
    | true => exact ⟨c, F, ρ, x, v, R, hx', q⟩
    | false => exact ⟨c, F, ρ, x, v, R, hx', q⟩
theorem x_con {e : Expr} {v : V} {dv : D} {h : HX} (he : PE (X.suite a ((a, oe) :: pn)) e (tC v)) (hv : ∀ x, hX Γ.isx Γ.xfl x h = some dv) (hr : ∀ F, Rep cl X.K F v dv) : PE (X.suite a ((a, oe) :: pn)) e (tHX Γ cl X.K i a cls d h) :=
  PE.weak he fun σ H Q ⟨c, F, ρ, x, w, R, hx, q⟩ => by
    rw [hv x] at hx
    cases hx
    exact q F H v (Same.refl F) R (hr F)
theorem x_not {t : Expr} {h : HB} (ht : PT (X.suite a ((a, oe) :: pn)) t (tHB Γ cl X.K i a cls d h)) : PT (X.suite a ((a, oe) :: pn)) (.UnaryOp .Not t pos) (tHB Γ cl X.K i a cls d (.not h)) :=
  PT.weak (pt_not ht) fun σ H Q ⟨c, F, ρ, x, b, R, hb, q⟩ => by
    obtain ⟨b', e, rfl⟩ := Option.map_eq_some_iff.mp (show (hB Γ.isx x h).map (!·) = some b from hb)
    exact ⟨c, F, ρ, x, b', R, e, q⟩
theorem x_and {t u : Expr} {h h' : HB} (ht : PT (X.suite a ((a, oe) :: pn)) t (tHB Γ cl X.K i a cls d h)) (hu : PT (X.suite a ((a, oe) :: pn)) u (tHB Γ cl X.K i a cls d h')) : PT (X.suite a ((a, oe) :: pn)) (.BoolOp .And [t, u] pos) (tHB Γ cl X.K i a cls d (.and h h')) :=
  PT.weak (pw_and ht (pw_and1 hu)).pt fun σ H Q ⟨c, F, ρ, x, b, R, hb, q⟩ => by
    have hb' : (match hB Γ.isx x h with
      | some true => hB Γ.isx x h'
      | some false => some false
      | none => none) = some b := hb
    cases e : hB Γ.isx x h with
    | none =>
      rw [e] at hb'
      cases hb'
    | some b1 =>
      rw [e] at hb'
      refine ⟨c, F, ρ, x, b1, R, e, ?_⟩
      cases b1 with
      | true => exact ⟨c, F, ρ, x, b, R, hb', q⟩
      | false =>
        cases hb'
        exact q
theorem x_ret {e : Expr} {h : HX} (he : PE (X.suite a ((a, oe) :: pn)) e (tHX Γ cl X.K i a cls d h)) : PSs (X.suite a ((a, oe) :: pn)) [.Return (some e) pos] (tHS Γ cl X.K i a cls d (.ret h)) :=
  PSs.weak (pss_cons (ps_ret he) pss_nil) fun D σ H ⟨c, F, ρ, x, v, R, hx, q⟩ => ⟨c, F, ρ, x, v, R, hx, q⟩
theorem x_if {t e : Expr} {hb : HB} {h : HX} {r : HS} {rest : List Stmt} (ht : PT (X.suite a ((a, oe) :: pn)) t (tHB Γ cl X.K i a cls d hb)) (he : PE (X.suite a ((a, oe) :: pn)) e (tHX Γ cl X.K i a cls d h)) (hr : PSs (X.suite a ((a, oe) :: pn)) rest (tHS Γ cl X.K i a cls d r)) :
    PSs (X.suite a ((a, oe) :: pn)) (.If t [.Return (some e) pos] [] p :: rest) (tHS Γ cl X.K i a cls d (.iff hb h r)) :=
  PSs.weak (pss_cons (ps_if ht (pss_cons (ps_ret he) pss_nil) pss_nil) hr) fun D σ H ⟨c, F, ρ, x, v, R, hx, q⟩ => by
    have hx' : (match hB Γ.isx x hb with
      | some true => hX Γ.isx Γ.xfl x h
      | some false => hS Γ.isx Γ.xfl x r
      | none => none) = some v := hx
    cases e1 : hB Γ.isx x hb with
    | none =>
      rw [e1] at hx'
      cases hx'
    | some b =>
      rw [e1] at hx'
      refine ⟨c, F, ρ, x, b, R, e1, ?_⟩
      cases b with
      | true => exact ⟨c, F, ρ, x, v, R, hx', q⟩
      | false => exact ⟨c, F, ρ, x, v, R, hx', q⟩
/-- try .. except y as n -/
theorem s_try {bd su : List Stmt} {b0 : Stmt} {sb : Ss} {h : HS} {np pos' : Pos} (G : Gd X Γ cl g k W) (hst : X.stack = X.env :: X.outer) (hfr : X.env.frame = some X.env.locals) (hi : X.N[i]? = some n) (hl : X.env.scope.names.lookup n = some .local) (hy : Gl X y) (h3 : (y == ("__debug__" : Str)) = false) (hs : (Γ.isx y y).isSome = true)
    (hb : ∀ (W' : WX) (pn : List (Addr × Obj)) (xe : Value → Shared → Prop), Takes (X.tr pn xe) W' → PassesOwn (model X.prog X.w) X.A X.env xe → PSs (X.tr pn xe) bd (tSs Γ cl X.K W' sb))
    (hsu : ∀ (a : Addr) (oe : Obj) (cls : Value) (d : Option Addr) (pn : List (Addr × Obj)), Zc cls d oe → (∃ vs, oe.data = .fields vs) → PSs (X.suite a ((a, oe) :: pn)) (b0 :: su) (tHS Γ cl X.K i a cls d h)) :
    PS X (.Try bd [.ExceptHandler (some (.Name y np)) (some n) (b0 :: su) pos'] [] [] pos) (tS Γ cl X.K W (.tryx sb i y h)) := by
  obtain ⟨b1, e1⟩ := Option.isSome_iff_exists.mp hs
  have hm := (G.xi y y b1 e1).1
  refine PS.weak (ps_try_as (ts := fun a cls d => tHS Γ cl X.K i a cls d h) (tb := fun W' => tSs Γ cl X.K W' sb) hst hfr G.nd hi hl ⟨hy, h3, .inl hm⟩ G.tk hb hsu) fun D σ H ⟨c, F, ρ, P, R0, hd, q⟩ => ?_
  refine ⟨c, F, ρ, _, R0, hd, .of fun c2 x2 => ?_⟩
  have q := q.up c2 x2
  refine ⟨q.nx, q.rt, q.bk, q.ct, fun x ρ' F' σ' H' cc d z m R ex => ?_⟩
  obtain ⟨z1, z2, z⟩ := z
  obtain ⟨v, ev, z⟩ := w1_of z
  obtain ⟨_, _, hx, _⟩ := G.xi x.cls y true z1
  have ec := ex.1
  refine ⟨true, by rw [ec]; exact hx, fun _ a ha => ?_, fun h => by cases h⟩
  have hlt : i < σ'.length := by
    rw [← R.len]
    exact z2
  have R1 : Rl cl X.K c2 F' (ρ'.set i .top) (σ'.set i (some (V.ref a))) H' := R.store hlt trivial fun o => by cases o
  refine ⟨c2, F', ρ'.set i .top, x, v, ⟨R1, by rw [List.getElem?_set_self hlt], ex⟩, ev, fun F2 H2 u m2 R2 rp => ?_⟩
  exact q.rt (.sh v) (ρ'.set i .top) F2 _ u H2 z (m.trans m2) R2.1 rp
end
end
end M
set_option linter.all false
set_option Elab.async false
set_option maxRecDepth 10000
/-! MiniSx: how many different ints: len(set(..)), len({..}); isinstance of built-in types. -/
namespace M
open PySem PySem.Spec PyProof.Rows L2
theorem uniq_snoc {ns : List Int} {k : Int} : uniq (ns ++ [k]) = if (uniq ns).any (· == k) = true then uniq ns else uniq ns ++ [k] := by
  unfold uniq
  rw [List.foldl_append] <;> rfl
theorem mem_fold {k : Int} : ∀ {ns acc : List Int}, k ∈ ns.foldl (fun met k => if met.any (· == k) = true then met else met ++ [k]) acc ↔ k ∈ acc ∨ k ∈ ns
  | [], acc => by simp
  | n :: ns, acc => by
    rw [List.foldl_cons, mem_fold (ns := ns)]
    by_cases h : acc.any (· == n) = true
    · rw [if_pos h]
      obtain ⟨y, hy, e⟩ := List.any_eq_true.mp h
      have e := eq_of_beq e
      subst e
      rw [List.mem_cons]
      exact ⟨fun z => z.imp id .inr, fun z => z.elim .inl fun z => z.elim (fun z => .inl (z ▸ hy)) .inr⟩
    · rw [if_neg h, List.mem_append, List.mem_singleton, List.mem_cons, or_assoc]
theorem mem_uniq {ns : List Int} {k : Int} : k ∈ uniq ns ↔ k ∈ ns := by
  unfold uniq
  rw [mem_fold]
  simp
theorem any_uniq {ns : List Int} {k : Int} : (uniq ns).any (· == k) = decide (k ∈ ns) := by
  by_cases h : k ∈ ns
  · rw [decide_eq_true h]
    exact List.any_eq_true.mpr ⟨k, mem_uniq.mpr h, beq_self_eq_true k⟩
  · rw [decide_eq_false h]
    refine Bool.eq_false_iff.mpr fun z => ?_
    obtain ⟨y, hy, e⟩ := List.any_eq_true.mp z
    have e : y = k := eq_of_beq e
    subst e
    exact h (mem_uniq.mp hy)
theorem card_snoc {ns : List Int} {k : Int} : card (ns ++ [k]) = if decide (k ∈ ns) = true then card ns else card ns + 1 := by
  unfold card
  rw [uniq_snoc, any_uniq]
  cases decide (k ∈ ns) with
  | true => rfl
  | false => exact List.length_append
theorem card_le : ∀ {ns : List Int}, card ns ≤ ns.length := fun {ns} => by
  have : ∀ (ns acc : List Int), (ns.foldl (fun met k => if met.any (· == k) = true then met else met ++ [k]) acc).length ≤ acc.length + ns.length := by
    intro ns
    induction ns with
    | nil => intro acc; simp
    | cons n ns ih =>
      intro acc
      rw [List.foldl_cons]
      refine Nat.le_trans (ih _) ?_
      split
      · simp only [List.length_cons]; omega
      · simp only [List.length_append, List.length_cons, List.length_nil]; omega
  have := this ns []
  simpa [card, uniq] using this
/-- as the library counts -/
theorem met_uniq {ns : List Int} : ∀ i, i ≤ ns.length → firstMet (fun i => ns.getD i 0) i = uniq (ns.take i)
  | 0, _ => rfl
  | i + 1, h => by
    have hi : i < ns.length := h
    have e : ns.take (i + 1) = ns.take i ++ [ns[i]] := by
      rw [List.take_add_one, List.getElem?_eq_getElem hi] <;> rfl
    have e2 : ns.getD i 0 = ns[i] := by
      rw [List.getD_eq_getElem?_getD, List.getElem?_eq_getElem hi] <;> rfl
    rw [firstMet_succ, met_uniq i (Nat.le_of_lt hi), e, uniq_snoc, e2] <;> rfl
theorem met_card {ns : List Int} : (firstMet (fun i => ns.getD i 0) ns.length).length = card ns := by
  rw [met_uniq _ (Nat.le_refl _), List.take_length] <;> rfl
section
variable {X : Cx} {Γ : Tb} {cl : Str → Addr → Prop} {K : PySem.W.Frag} {W : WX} {c : Ct} {F F' H H' : Hp} {ρ : En} {σ : L2.St} {v u : V} {pos p p2 p3 apos : Pos} {g : Bool} {k : Nat} {s : Shared} {pins : List (Addr × Obj)} {tg : Expr}
/-! ### len(set(xs)) -/
def tLs (K : PySem.W.Frag) (ta : TE) : TE := fun σ H Q => ta σ H fun x H1 => ∃ (l : Addr) (ns : List Int), x = .ref l ∧ SqL K H1 l (ns.map V.int) ∧ ns.length < 4000 ∧ Q (.int (card ns : Nat)) H1
theorem pe_lset {a : Expr} {ta : TE} (gl : Gl X "len") (ml : X.mg "len" = none) (gs : Gl X "set") (ms : X.mg "set" = none) (pa : PE X a ta) (hc : X.calm = true) (na : starEach [a] X.env = (false, eval a X.env) :: starEach [] X.env) :
    PE X (.Call (.Name "len" p) [.Call (.Name "set" p2) [a] [] p3] [] pos) (tLs X.K ta) := by
  refine ⟨fun pins s σ H Q J q => Call_ (ld_blt J gl ml boot_len (callWith_builtin1 (args_cons (Call_ (ld_blt J gs ms boot_set (callWith_type1 (args_cons (thn (pa.run pins s σ H _ J q) ?_) na) na rfl))) rfl) rfl rfl))⟩
  rintro v s1 ⟨x, H1, J1, rx, l, ns, rfl, sq, small, q1⟩
  refine args_nil ?_
  obtain rfl : v = Value.ref l := rx
  obtain ⟨its, vs, pl, _⟩ := J1.list sq
  have many : its.toArray.size = ns.length := by
    have := vs.length
    rw [List.length_map] at this
    rw [List.size_toArray]
    exact this.symm
  have len1 := card_le (ns := ns)
  refine call_set_list (J1.ok.hd hc) pl.isList (ns := ns) (by simpa using RZ.intsAre_vals vs) (by rw [many]; unfold scanBound; omega) fun h1 tk st kp => args_nil ?_
  rw [many, met_card] at st
  obtain ⟨ob, es, ep, t, e0, e1, e2, _, _, _, e3, e4⟩ := st
  have J2 : Inv X pins σ H1 { s1 with heap := h1, toks := tk } := J1.kept fun b o e => kp b o (Heap.lt_size e) e
  exact call_len_set e0 e1 e2 e3 (by rw [e4]; omega) ⟨.int (card ns : Nat), H1, J2.tok _, ⟨_, by rw [e4]⟩, q1⟩
theorem reps_int {K : PySem.W.Frag} {F : Hp} : ∀ {ns : List Int} {vs : List V}, Reps cl K F vs (ns.map D.int) → vs = ns.map V.int
  | [], _, .nil => rfl
  | n :: ns, _, .cons (.int _) r => congrArg (V.int n :: ·) (reps_int r)
theorem e_lset {a : Expr} {ee : E} (G : Gd X Γ cl g k W) (gl : Gl X "len") (gs : Gl X "set") (he : PE X a (tE Γ cl X.K W ee)) (hs : starEach [a] X.env = (false, eval a X.env) :: starEach [] X.env) : PE X (.Call (.Name "len" p) [.Call (.Name "set" p2) [a] [] p3] [] pos) (tE Γ cl X.K W (.lset ee)) := by
  refine PE.weak (pe_lset gl (G.bn _ (by decide +kernel)) gs (G.bn _ (by decide +kernel)) he G.calm hs) fun σ H Q ⟨c, F, ρ, Q0, X0, R0, h, q, hx⟩ => ?_
  refine oneE R0 h hx fun r ρ1 F1 v H1 z m R1 rr => ?_
  obtain ⟨ds, e1, z⟩ := wL_of z
  obtain ⟨ns, e2, hl, z⟩ := w1_of z
  obtain ⟨l, vs, rfl, hh, rs⟩ := rr.vw R1 e1
  rw [intsOf_map e2] at rs
  rw [reps_int rs] at hh
  exact ⟨l, ns, rfl, .of hh, hl, q _ _ F1 _ H1 z m R1 (.int _)⟩
/-! ### isinstance(x, int), isinstance(x, list) -/
theorem e_isb {a : Expr} {ee : E} {x : Str} (G : Gd X Γ cl g k W) (hg : Gl X "isinstance") (hx : Gl X x) (he : PE X a (tE Γ cl X.K W ee)) (hs : starEach (a :: [.Name x p2]) X.env = (false, eval a X.env) :: starEach [.Name x p2] X.env) (ho : x = "int" ∨ x = "list" ∨ x = "tuple") :
    PE X (.Call (.Name "isinstance" p) [a, .Name x p2] [] pos) (tE Γ cl X.K W (.isb ee x)) := by
  have key : ∀ (T : String), x = T → bootBuiltins x = some (.type T) → (∀ d, isB x d = true → (∃ i, d = .int i ∧ T = "int") ∨ (∃ l, d = .lst l ∧ T = "list") ∨ ∃ l, d = .tup l ∧ T = "tuple") → X.mg x = none → x ≠ "__name__" → (x == ("__debug__" : Str)) = false →
      PE X (.Call (.Name "isinstance" p) [a, .Name x p2] [] pos) (tE Γ cl X.K W (.isb ee x)) := fun T ex bb ty mx n1 n2 => by
    refine PE.weak (pe_callB RZ.call_isTy hg (G.bn _ (by decide +kernel)) (by decide +kernel) (pa_cons he (pa_cons (pe_bltn (v := .ty T) hx mx bb rfl n1 n2) pa_nil rfl) hs) (by decide +kernel) (by decide +kernel) hs rfl) fun σ H Q ⟨c, F, ρ, Q0, X0, R0, h, q, hx⟩ => ?_
    refine oneE R0 h hx fun r ρ1 F1 v H1 z m R1 rr => ?_
    obtain ⟨d, e1, e2, z⟩ := w1_of z
    refine ⟨v, T, rfl, ?_, q _ _ F1 _ H1 z m R1 (.bl _)⟩
    rcases ty d e2 with ⟨i, rfl, rfl⟩ | ⟨l, rfl, rfl⟩ | ⟨l, rfl, rfl⟩
    · have := vw_int (rr.vw R1 e1)
      subst this
      exact .int i
    · obtain ⟨b, vs, rfl, hh, _⟩ := rr.vw R1 e1
      exact .lst hh
    · have := rr.vw R1 e1
      cases (show Rep cl X.K F1 v (.tup l) from this) with
      | tup h1 h2 => exact .tup (R1.fh _ _ h1)
  have no : ∀ {c c' : Str} {b : Bool}, (c == c') = false → decide (c = c') = true → False := fun h z => by
    rw [of_decide_eq_true z, beq_self_eq_true] at h
    cases h
  rcases ho with rfl | rfl | rfl
  · exact key "int" rfl (by decide +kernel) (fun d h => by
      cases d with
      | int i => exact .inl ⟨i, rfl, rfl⟩
      | lst l => exact absurd h (by simp [isB]; decide +kernel)
      | tup l => exact absurd h (by simp [isB]; decide +kernel)
      | _ => cases h) (G.bn _ (by decide +kernel)) (by decide +kernel) (by decide +kernel)
  · exact key "list" rfl (by decide +kernel) (fun d h => by
      cases d with
      | lst i => exact .inr (.inl ⟨i, rfl, rfl⟩)
      | int l => exact absurd h (by simp [isB]; decide +kernel)
      | tup l => exact absurd h (by simp [isB]; decide +kernel)
      | _ => cases h) (G.bn _ (by decide +kernel)) (by decide +kernel) (by decide +kernel)
  · exact key "tuple" rfl (by decide +kernel) (fun d h => by
      cases d with
      | tup i => exact .inr (.inr ⟨i, rfl, rfl⟩)
      | int l => exact absurd h (by simp [isB]; decide +kernel)
      | lst l => exact absurd h (by simp [isB]; decide +kernel)
      | _ => cases h) (G.bn _ (by decide +kernel)) (by decide +kernel) (by decide +kernel)
/-! ### len({.. for .. in ..}) -/
/-- set.add of an int -/
theorem addI {D : Addr} {S : Int → Bool} {n : Nat} {y : Int} {t : Tok} {E : Value → Shared → Prop} {Q : Value → Shared → Prop} (J : Inv X pins σ H s) (e : H D = some (SetO X.w D S n)) (rm : n + 1 < scanBound)
    (q : ∀ s', Inv X pins σ (upd H D (SetO X.w D (fun j => S j || decide (j = y)) (if S y = true then n else n + 1))) s' → Q .none s') : wpAny (model X.prog X.w) X.A (call (.builtin "set.add") [.ref D, .int y t]) Q E s := by
  refine setR_add (setO_get J e) rm fun h1 sb r1 => q _ ?_
  obtain ⟨o, es, ep, tt, ho, r⟩ := id r1
  exact J.write (e := D) (t' := s.toks + 1) (by rw [e]; trivial) (.inl rfl) (fun b u ne z => (sb.2 b ne).trans z) ⟨o, ho⟩ (setO_new r1)
/-- {elt for target in iter}, elt an int: D the new set -/
def tSi (w : World) (wi : TI) (tt : TG) (te : TE) (vs : List Nat) : TE := fun σ H Q => wi σ H fun J H1 => ∀ D, H1 D = none → ∃ W : Nat → Nat → Hp → Prop, (∃ m, W 0 m (upd H1 D (SetO w D (fun _ => false) 0))) ∧ ∀ i m H, W i m H →
  (J.stop i H ∧ Q (.ref D) H) ∨ (J.go i H ∧ ∃ Nx : Hp → Prop, (∀ H', Nx H' → ∃ m', m' < m ∧ W (i + 1) m' H') ∧ ∀ x H', J.yld i H x H' → tt x (wipe σ vs) H' fun σ2 H2 => wipe σ2 vs = wipe σ vs ∧
    te σ2 H2 fun y H4 => ∃ (c : Int) (S : Int → Bool) (n : Nat), y = .int c ∧ H4 D = some (SetO w D S n) ∧ n + 1 < scanBound ∧ Nx (upd H4 D (SetO w D (fun j => S j || decide (j = c)) (if S c = true then n else n + 1))))
theorem pe_si {elt iter : Expr} {scope : Scope} {own : List (Str × Nat)} {wi : TI} {tt : TG} {te : TE} (hc : X.calm = true) (hN : X.N.Nodup) (hi : PI X tg iter wi) (bk : BlkOk X.N X.env.scope scope own)
    (hg : ∀ (s : Shared) (H : Hp) (C : Addr) (cc : List (Str × Addr)) (fp : List Addr), PG (X.blk s H scope (compEnvC scope cc C X.env) fp) tg tt) (he : ∀ (s : Shared) (H : Hp) (C : Addr) (cc : List (Str × Addr)) (fp : List Addr), PE (X.blk s H scope (compEnvC scope cc C X.env) fp) elt te)
    (hs : ∀ x, foldedSetIterable iter X.env x = pure x) : PE X (.SetComp elt [⟨tg, iter, [], 0⟩] scope pos) (tSi X.w wi tt te (own.map (·.2))) := by
  refine ⟨fun pins s σ H Q J q => ?_⟩
  rw [PpSet.eval_SetComp]
  have cells : ∀ y ∈ scope.names, y.2 = .free → ∃ b, X.env.cells.lookup y.1 = some b := fun y hy e => (bk.free y hy e).elim (fun z => J.ok.has _ (.inl z)) fun z => J.ok.has _ (.inr z)
  refine wpAny_comprehension_free (use := none) rfl hs (closure_ok cells) bk.kind (fun y hy e => by rw [bk.uniq y hy, e]) (thn (hi.run pins s σ H _ J q) fun _ s1 z => thn z ?_)
  rintro _ s2 ⟨it, fp, tn, I0, H2, rfl, J2, T, at2, f2, q2⟩
  refine PpSet.newSet_ok (newEnv_comp ?_)
  generalize dd : s2.heap.objs.size = D
  have dn : H2 D = none := J2.hok.fresh (Nat.le_of_eq dd)
  obtain ⟨Wv, ⟨m0, w0⟩, turn⟩ := q2 D dn
  generalize e3 : ({ s2 with heap := s2.heap.push { cls := .type "set", dict := none, data := .set #[] 0 (.fresh 0 0 (!X.w.params.followText "set-order")) } } : Shared) = s3
  have hp3 : s3.heap = s2.heap.push { cls := .type "set", dict := none, data := .set #[] 0 (.fresh 0 0 (!X.w.params.followText "set-order")) } := congrArg Shared.heap e3.symm
  have J3 : Inv X pins σ (upd H2 D (SetO X.w D (fun _ => false) 0)) s3 := by
    subst e3 dd
    exact J2.laid (t' := s2.toks) (fun b o z => Heap.get?_push_of_some _ z) (Nat.le_refl _) (setO_new (setR_fresh X.w))
  have low : ∀ b ∈ fp, b < s2.heap.objs.size := fun b hb => let ⟨_, z, _⟩ := T.obj _ _ at2 b hb; Heap.lt_size z
  have f3 : ∀ b ∈ fp, FpOk X pins (upd H2 D (SetO X.w D (fun _ => false) 0)) b ∧ b < s3.heap.objs.size := fun b hb => ⟨⟨by rw [upd_ne (by rw [← dd]; exact Nat.ne_of_lt (low b hb))]; exact (f2 b hb).1, (f2 b hb).2⟩, by rw [hp3, Heap.size_push]; exact Nat.lt_succ_of_lt (low b hb)⟩
  have at3 : tn 0 s3.heap := T.keep _ _ _ at2 fun b _ o z => by
    rw [hp3]
    exact Heap.get?_push_of_some _ z
  have J4 := block_start J3 bk hN f3
  have P1 := hg s3 (upd H2 D (SetO X.w D (fun _ => false) 0)) s3.heap.objs.size (cellsFrom (s3.heap.objs.size + 1) scope.names (cloFrom X.env.cells scope.names [])) fp
  have P2 := he s3 (upd H2 D (SetO X.w D (fun _ => false) 0)) s3.heap.objs.size (cellsFrom (s3.heap.objs.size + 1) scope.names (cloFrom X.env.cells scope.names [])) fp
  show codeAny _ _ (.compStart (.SetComp elt [⟨tg, iter, [], 0⟩] scope pos) 0 (.ref it) (.ref D) (compEnvC scope (cellsFrom (s3.heap.objs.size + 1) scope.names (cloFrom X.env.cells scope.names [])) s3.heap.objs.size X.env)) (compPost (model X.prog X.w) X.A X.xe none (EP X pins σ Q) (.ref D) s3.heap.objs.size) { s3 with heap := pushCells (s3.heap.push { cls := .type "dict", data := .dict #[] }) scope.names }
  have none3 : ∀ b ∈ fp, (upd H2 D (SetO X.w D (fun _ => false) 0)) b = none := fun b hb => (f3 b hb).1.1
  generalize ec : compEnvC scope (cellsFrom (s3.heap.objs.size + 1) scope.names (cloFrom X.env.cells scope.names [])) s3.heap.objs.size X.env = ce at J4 P1 P2 ⊢
  have locs : ce.locals = s3.heap.objs.size := ec ▸ rfl
  generalize eH : upd H2 D (SetO X.w D (fun _ => false) 0) = H3 at J3 J4 P1 P2 w0 none3 f3
  generalize e4 : ({ s3 with heap := pushCells (s3.heap.push { cls := .type "dict", data := .dict #[] }) scope.names } : Shared) = s4 at J4 ⊢
  have at4 : tn 0 s4.heap := T.keep _ _ _ at3 fun b _ o z => by
    subst e4
    exact pushCells_keeps _ _ _ _ (Heap.get?_push_of_some _ z)
  have fps : ∀ {σ' : L2.St} {H' : Hp} {s' : Shared}, Inv (X.blk s3 H3 scope ce fp) [] σ' H' s' → (∀ b ∈ fp, H' b = none) → ∀ b ∈ fp, FpOk (X.blk s3 H3 scope ce fp) [] H' b := fun {σ' H' s'} I' hn b hb =>
    ⟨hn b hb, (I'.ok.exf b hb).1, I'.ok.exfs b hb, .inl hb, fun x y e => (I'.ok.exf b hb).2 x y e, fun y hy => absurd (show y ∈ ([] : List (Addr × Obj)) ++ [] from hy) (by simp)⟩
  have go : codeAny (model X.prog X.w) X.A (.compLoop (.SetComp elt [⟨tg, iter, [], 0⟩] scope pos) 0 (.ref it) (.ref D) ce) (compPost (model X.prog X.w) X.A X.xe none (EP X pins σ Q) (.ref D) s3.heap.objs.size) s4 := by
    refine PpSet.compLoopS_any (fun n s' => ∃ i H', Inv (X.blk s3 H3 scope ce fp) [] (wipe σ (own.map (·.2))) H' s' ∧ tn i s'.heap ∧ (∀ b ∈ fp, H' b = none) ∧ Wv i n H') ?_ m0 ⟨0, H3, J4, at4, none3, w0⟩
    rintro n s5 ⟨i, H5, J5, at5, n5, w5⟩
    rcases turn i n H5 w5 with ⟨stop, qe⟩ | ⟨more, Nx, nx, step⟩
    · refine thnF (T.done (X.blk s3 H3 scope ce fp) rfl rfl rfl hc i [] s5 _ H5 (fun _ _ => False) J5 (fps J5 n5) at5 stop) ?_
      rintro _ s6 ⟨rfl, J6⟩
      have J7 : Inv X pins σ H5 s6 := J3.call' (ch := fp) J6.os J6.base J6.hok J6.bare fun b hb => let z := (f3 b hb).1.2; ⟨z.2.2.1, z.1, z.2.2.2.1, z.2.2.2.2⟩
      have nC : H5 s3.heap.objs.size = none := locs ▸ (show H5 ce.locals = none from J6.free)
      obtain ⟨nm, hn, _⟩ := J6.loc
      have hn : s6.heap.Ns s3.heap.objs.size nm := locs ▸ (show s6.heap.Ns ce.locals nm from hn)
      obtain ⟨g0, g1, g2, g3, g4, g5⟩ := J3.fpOk (Nat.le_refl _) nC
      exact ⟨nm, hn, fun h'' sb => ⟨.ref D, H5, J7.turned (t' := s6.toks) (fun b o hb z => (sb.2 b hb).trans z) g0 g1 g3 g4 g5, rfl, qe⟩⟩
    · refine thnF (T.item (X.blk s3 H3 scope ce fp) rfl rfl rfl hc i [] s5 _ H5 (fun _ _ => False) J5 (fps J5 n5) at5 more) ?_
      rintro _ s6 ⟨u, rfl, h6⟩
      refine thnF h6 fun _ s7 ⟨x, H7, J7, r7, y7, at7, n7⟩ => ?_
      refine thnF (P1.run _ s7 _ H7 x u _ (J7.pinned (fps J7 n7) (T.obj _ _ at7)) r7 (step x H7 y7)) fun _ s8 ⟨σ8, H8, J8, ws, q8⟩ => ?_
      rw [List.forIn_nil]
      refine wpAny_pure ?_
      rw [if_pos rfl]
      refine thnF (P2.run _ _ σ8 H8 _ J8 q8) fun z s10 ⟨yv, H10, J10, r10, cb, S0, n0, ey, hD, room, nx2⟩ => ?_
      subst ey
      obtain ⟨tk, rfl⟩ : ∃ t, z = Value.int cb t := r10
      refine addI (X := X.blk s3 H3 scope ce fp) J10 hD room fun s11 J11 => ?_
      obtain ⟨m', lt, w6⟩ := nx _ nx2
      have kp : ∀ b ∈ fp, ∀ o, s7.heap.get? b = some o → s11.heap.get? b = some o ∧ (upd H10 D (SetO X.w D (fun j => S0 j || decide (j = cb)) (if S0 cb = true then n0 else n0 + 1))) b = none := fun b hb o e =>
        let z := J11.pin (b, o) (List.mem_append_right _ (List.mem_append_right _ (mem_pinsAt hb e)))
        ⟨z.1, z.2.1⟩
      have ln : (wipe σ (own.map (·.2))).length = σ8.length := by rw [← ws, wipe_length]
      refine ⟨m', lt, i + 1, _, (J11.unpinned (pins := [])).weak ln (fun j v e => ?_), T.keep _ _ _ at7 fun b hb o e => (kp b hb o e).1, fun b hb => ?_, w6⟩
      · rw [← ws] at e
        exact (wipe_some e).1
      · obtain ⟨o, e, _⟩ := T.obj _ _ at7 b hb
        exact (kp b hb o e).2
  exact PpSet.codeAny_compStart_set go (T.self X.A 0 _ _ _ at4 go)
/-- len of a set of ints -/
theorem call_lenSi : CallR X (.builtin "len") (fun xs H Q => ∃ (a : Addr) (S : Int → Bool) (n : Nat), xs = [.ref a] ∧ H a = some (SetO X.w a S n) ∧ Q (.int (n : Nat)) H) := by
  rintro pins s σ H xs us Q J r ⟨a, S, n, rfl, e, q⟩
  obtain ⟨w, rfl, rw'⟩ := vals1 r
  obtain rfl : w = Value.ref a := rw'
  obtain ⟨o, es, ep, t, h0, h1, h2, _, _, _, h3, h4, h5, _⟩ := setO_get J e
  subst h5
  exact call_len_set h0 h1 h2 h4 (by unfold scanBound at h3; omega) ⟨.int (es.size : Nat), _, J.tok _, ⟨_, rfl⟩, q⟩
/-- the set of the first ones -/
def setOf (w : World) (D : Addr) (acc : List Int) : HO := SetO w D (fun j => decide (j ∈ acc)) (card acc)
theorem setOf_nil {w : World} {D : Addr} : setOf w D [] = SetO w D (fun _ => false) 0 := by
  unfold setOf
  congr 1
theorem setOf_snoc {w : World} {D : Addr} {acc : List Int} {k : Int} : SetO w D (fun j => decide (j ∈ acc) || decide (j = k)) (if decide (k ∈ acc) = true then card acc else card acc + 1) = setOf w D (acc ++ [k]) := by
  unfold setOf
  rw [card_snoc]
  congr 1
  funext j
  simp
theorem lsc_loop {w : World} {it : I} {t : T} {ee : E} {own : List (Str × Nat)} {Q : VK} (hsub : ∀ i ∈ tIx t, i ∈ own.map (·.2)) (h : tE Γ cl K W (.lsc ee t it own) σ H Q) :
    tSi w (tI' Γ cl K W it) (tG cl K t) (tE Γ cl K WF ee) (own.map (·.2)) σ H fun x H' => ∃ (D : Addr) (S : Int → Bool) (n : Nat), [x] = [V.ref D] ∧ H' D = some (SetO w D S n) ∧ Q (.int (n : Nat)) H' := by
  obtain ⟨c, F, ρ, Q0, X0, R0, h, q, hx⟩ := h
  refine ⟨c, F, ρ, _, X0, R0, h, fun ds ρ1 F1 J H1 z m1 R1 wk => ?_, hx⟩
  obtain ⟨_, Wv, w0, step, fin⟩ := z
  intro D hD
  have hi : ∀ j, (j, D) ∉ c.ios := fun j y => (R1.io j D y).2 hD
  refine ⟨fun i m H => m = ds.length - i ∧ i ≤ ds.length ∧ ∃ (F' : Hp) (ρ2 : En) (acc : List Int), Same F1 F' ∧ Rl cl K c F' (wipeE ρ2 own) (wipe σ (own.map (·.2))) H ∧ Wv i acc (wipeE ρ2 own) ∧ Beside c F' (wipeE ρ2 own) (wipe σ (own.map (·.2))) H D (setOf w D acc),
    ⟨ds.length, rfl, Nat.zero_le _, F1, ρ1, [], Same.refl F1, (R1.alloc hD).wiped, w0, ?_⟩, ?_⟩
  · rw [setOf_nil]
    exact Beside.wiped ⟨R1.new0 hD, R1.newF hD, upd_same, fun i s e o => R1.ne_own hD i s e o⟩
  · rintro i m H2 ⟨rfl, hle, F2, ρ2, acc, m2, R2, wv, b⟩
    by_cases hlt : i < ds.length
    · have e : ds[i]? = some ds[i] := List.getElem?_eq_getElem hlt
      generalize ds[i] = d at e
      refine .inr ⟨wk.go c F2 _ _ H2 i d CLe.refl m2 R2 e, fun H' => _, fun H' nx => ⟨ds.length - (i + 1), by omega, nx⟩, fun x H3 y => ?_⟩
      obtain ⟨F3, m3, R3, rx⟩ := wk.yld (c.pin D (setOf w D acc) b.h0) F2 _ _ H2 i d x H3 (pin_le b.h0) m2 (R2.pin b) e y
      refine ⟨c.pin D (setOf w D acc) b.h0, F3, _, d, _, R3, rx, step i acc _ d e wv, fun ρ3 σ3 z3 R4 o3 => ?_⟩
      have ws : wipe σ3 (own.map (·.2)) = wipe σ (own.map (·.2)) := (o3.2 _ hsub).trans wipe_wipe
      refine ⟨ws, c.pin D (setOf w D acc) b.h0, F3, ρ3, _, nEx, R4, z3, fun r ρ5 F5 y5 H5 z5 m5 R6 r6 => ?_, exl0⟩
      have f0 : c.F0 D = none := by
        cases e : c.F0 D with
        | none => rfl
        | some u =>
          have := R2.f0 D u e
          rw [b.f] at this
          cases this
      obtain ⟨k, ek, hll, z6⟩ := wI_of z5
      have := vw_int (r6.vw R6 ek)
      subst this
      obtain ⟨R8, b8⟩ := R6.unpin f0 hi
      have cl1 := card_le (ns := acc)
      refine ⟨k, _, _, rfl, b8.h, by unfold scanBound; omega, ?_⟩
      rw [setOf_snoc]
      obtain ⟨R9, b9⟩ := R8.updD (o' := setOf w D (acc ++ [k])) b8
      have R10 := R9.wiped (own := own)
      have b10 := b9.wiped (own := own)
      rw [ws] at R10 b10
      exact ⟨rfl, hlt, F5, ρ5, acc ++ [k], (m2.trans m3).trans m5, R10, z6, b10⟩
    · have e : i = ds.length := by omega
      subst e
      refine .inl ⟨wk.stop c F2 _ _ H2 CLe.refl m2 R2, D, _, _, rfl, b.h, ?_⟩
      obtain ⟨R3, _⟩ := R1.back m2 R2
      exact q _ _ F2 _ H2 (fin acc _ wv) (m1.trans m2) R3 (.int _)
theorem e_lsc {elt iter : Expr} {scope : Scope} {it : I} {t : T} {ee : E} {own : List (Str × Nat)} (G : Gd X Γ cl g k W) (gl : Gl X "len") (hsub : ∀ i ∈ tIx t, i ∈ own.map (·.2)) (hi : PI X tg iter (tI' Γ cl X.K W it)) (ok : BlkOk X.N X.env.scope scope own)
    (hg : ∀ (s : Shared) (H : Hp) (C : Addr) (cc : List (Str × Addr)) (fp : List Addr), PG (X.blk s H scope (compEnvC scope cc C X.env) fp) tg (tG cl X.K t))
    (he : ∀ (s : Shared) (H : Hp) (C : Addr) (cc : List (Str × Addr)) (fp : List Addr), PE (X.blk s H scope (compEnvC scope cc C X.env) fp) elt (tE Γ cl X.K WF ee)) (hs : ∀ x, foldedSetIterable iter X.env x = pure x) :
    PE X (.Call (.Name "len" p) [.SetComp elt [⟨tg, iter, [], 0⟩] scope p2] [] pos) (tE Γ cl X.K W (.lsc ee t it own)) := by
  refine PE.weak (pe_callB call_lenSi gl (G.bn _ (by decide +kernel)) (by decide +kernel) (pa_cons (pe_si G.calm G.nd hi ok hg he hs) pa_nil rfl) (by decide +kernel) (by decide +kernel) rfl rfl) fun σ H Q h => ?_
  exact lsc_loop (w := X.w) hsub h
/-! ### list.index -/
theorem rep_flat {K : PySem.W.Frag} {F : Hp} {v : V} {d : D} (r : Rep cl K F v d) (f : flatD d = true) : flatV v = true := by
  cases r <;> first | rfl | cases f
theorem rep_eq {K : PySem.W.Frag} {F : Hp} {v u : V} {d e : D} (r : Rep cl K F v d) (r' : Rep cl K F u e) (f : flatD d = true) (f' : flatD e = true) : eqV v u = eqD d e := by
  cases r <;> first | (cases f; done) | (cases r' <;> first | rfl | (cases f'; done))
theorem reps_flat {K : PySem.W.Frag} {F : Hp} : ∀ {vs : List V} {ds : List D}, Reps cl K F vs ds → ds.all flatD = true → vs.all flatV = true
  | _, _, .nil, _ => rfl
  | _, _, .cons r rs, h => by
    rw [List.all_cons, Bool.and_eq_true] at h ⊢
    exact ⟨rep_flat r h.1, reps_flat rs h.2⟩
theorem e_index {o e : Expr} {eo ee : E} {cpos : Pos} (ho : PE X o (tE Γ cl X.K W eo)) (he : PE X e (tE Γ cl X.K W ee)) (hbase : attributeBase o "index" X.env (eval o X.env) = eval o X.env)
    (hline : (apos.endLine == cpos.line) = true) (hst : starEach [e] X.env = (false, eval e X.env) :: starEach [] X.env) (hfew : few cpos e X.env) : PE X (.Call (.Attribute o "index" apos) [e] [] cpos) (tE Γ cl X.K W (.index eo ee)) :=
  PE.weak (pe_bm PySem.F.plainAttrs_list PySem.F.slot_list_index PySem.F.type_list_index mt_index ho (pa_cons he pa_nil hst) hbase hfew hline hst rfl) fun σ H Q ⟨c, F, ρ, Q0, X0, R0, h, q, hx⟩ => by
    refine ⟨c, F, ρ, _, X0, R0, h, fun ra ρ1 F1 v H1 h1 m1 R1 r1 => ?_, hx⟩
    obtain ⟨ds0, e0, z⟩ := wL_of h1
    obtain ⟨F1', m1', R1', hl⟩ := r1.held R1
    have ty : tyV X.K "list" v H1 := by
      obtain ⟨a, vs, rfl, hh, _⟩ := r1.vw R1 e0
      exact .inl ⟨rfl, vs, .of hh⟩
    refine ⟨ty, c, F1', ρ1, _, X0, R1', z, fun rb ρ2 F2 u H2 z2 m2 R2 r2 => ?_, hx.mono (m1.trans m1')⟩
    obtain ⟨ds, e1, z3⟩ := wL_of z2
    obtain ⟨x, e2, fl, fx, z4⟩ := w1_of z3
    obtain ⟨j, ej, z5⟩ := w1_of z4
    obtain ⟨a, vs, rfl, hh, rs⟩ := (hl.mono m2).vw R2 e1
    have rx : Rep cl X.K F2 u x := by
      have := r2.vw R2 e2
      cases x <;> first | exact this | cases fx
    obtain ⟨hj, pj, no⟩ := List.findIdx?_eq_some_iff_getElem.mp ej
    have gd : ds[j]? = some ds[j] := List.getElem?_eq_getElem hj
    obtain ⟨w, ew, rw'⟩ := rs.get gd
    have fall := List.all_eq_true.mp fl
    refine ⟨a, vs, u, j, w, rfl, rfl, .of hh, rep_flat rx fx, reps_flat rs fl, ew, (rep_eq rw' rx (fall _ (List.getElem_mem hj)) fx).trans pj, fun i z' hi ez => ?_, q _ _ F2 _ H2 z5 ((m1.trans m1').trans m2) R2 (.int _)⟩
    obtain ⟨d', ed, rd⟩ := rs.get' ez
    obtain ⟨hil, eil⟩ := List.getElem?_eq_some_iff.mp ed
    rw [rep_eq rd rx (fall _ (List.mem_of_getElem? ed)) fx, ← eil]
    have := no i hi
    simpa using this
end
end M
set_option linter.all false
set_option Elab.async false
set_option maxRecDepth 10000
/-! MiniNl: own lists of own lists. -/
namespace M
open PySem PySem.Spec PyProof.Rows L2
theorem slG_of {s : Option Sl} {k : List (List D) → Prop} (h : slG s k) : ∃ dss, s = some (.on dss) ∧ k dss := by
  unfold slG at h
  split at h
  · exact ⟨_, rfl, h⟩
  · exact h.elim
theorem slA_of {s : Option Sl} {k : Nat → Nat → List D → Prop} (h : slA s k) : ∃ o j ds, s = some (.al o j ds) ∧ k o j ds := by
  unfold slA at h
  split at h
  · exact ⟨_, _, _, rfl, h⟩
  · exact h.elim
/-- a slot that tells nothing of lists of lists -/
def Sl.pln : Sl → Bool
  | .on _ => false
  | .al _ _ _ => false
  | _ => true
/-- what a new group must be -/
structure Gp (c : Ct) (i : Nat) (a : Addr) (as : List Addr) (N : Hp) : Prop where
  out : ∀ x, x ∉ a :: as → N x = c.H0 x
  hd : N a = some (.lst (as.map V.ref))
  ne : ∀ b ∈ as, N b ≠ none
  nd : (a :: as).Nodup
  fr : ∀ b ∈ a :: as, c.F0 b = none ∧ c.B b = none ∧ ∀ j, (j, b) ∉ c.ios
  dj : ∀ j a' as' b, c.gh j = some (a', as') → j ≠ i → b ∈ a :: as → b ∉ a' :: as'
/-- the call with another group at slot i -/
def Ct.grp (c : Ct) (i : Nat) (a : Addr) (as : List Addr) (N : Hp) (h : Gp c i a as N) : Ct where
  F0 := c.F0
  H0 := N
  ios := c.ios
  bl := c.bl
  B := c.B
  gh := fun j => if j = i then some (a, as) else c.gh j
  hb := c.hb
  gB := fun x o e => by
    rw [h.out x fun m => by
      have := (h.fr x m).2.1
      rw [e] at this
      cases this]
    exact c.gB x o e
  gl := fun j a' as' g => by
    by_cases e : j = i
    · rw [if_pos e] at g
      cases g
      exact ⟨h.hd, h.nd⟩
    · rw [if_neg e] at g
      obtain ⟨h1, h2⟩ := c.gl j a' as' g
      rw [h.out a' fun m => h.dj j a' as' a' g e m List.mem_cons_self]
      exact ⟨h1, h2⟩
  gf := fun j a' as' b g m => by
    by_cases e : j = i
    · rw [if_pos e] at g
      cases g
      refine ⟨?_, h.fr b m⟩
      rcases List.mem_cons.mp m with rfl | m
      · rw [h.hd]
        simp
      · exact h.ne b m
    · rw [if_neg e] at g
      obtain ⟨h1, h2⟩ := c.gf j a' as' b g m
      exact ⟨by rw [h.out b fun z => h.dj j a' as' b g e z m]; exact h1, h2⟩
  gd := fun j k a1 as1 a2 as2 b g1 g2 n m => by
    by_cases e : j = i
    · rw [if_pos e] at g1
      cases g1
      rw [if_neg (fun z => n (e.trans z.symm))] at g2
      exact h.dj k a2 as2 b g2 (fun z => n (e.trans z.symm)) m
    · rw [if_neg e] at g1
      by_cases e2 : k = i
      · rw [if_pos e2] at g2
        cases g2
        exact fun z => h.dj j a1 as1 b g1 e z m
      · rw [if_neg e2] at g2
        exact c.gd j k a1 as1 a2 as2 b g1 g2 n m
section
variable {X : Cx} {Γ : Tb} {cl : Str → Addr → Prop} {K : PySem.W.Frag} {W : WX} {c : Ct} {F F' H H' : Hp} {ρ ρ' : En} {σ : L2.St} {v u : V} {pos p p2 p3 apos : Pos} {g : Bool} {k : Nat} {s : Shared} {pins : List (Addr × Obj)} {i : Nat} {a : Addr} {as : List Addr} {N : Hp}
theorem grp_xt (h : Gp c i a as N) : Xt c (c.grp i a as N h) := ⟨rfl, rfl, rfl, rfl⟩
/-- the slots told anew over another group -/
theorem Rl.grp (h : Gp c i a as N) (R : Rl cl K c F ρ σ H) (hl : ρ'.length = ρ.length) (ho : ∀ x, x ∉ a :: as → H' x = H x) (hi : ∀ x ∈ a :: as, H' x = N x) (hF : ∀ x ∈ a :: as, F x = none)
    (ow : ∀ (k : Nat) s x, ρ[k]? = some s → s.own = true → σ[k]? = some (some (V.ref x)) → x ∉ a :: as)
    (sl : ∀ (k : Nat) s', ρ'[k]? = some s' → (s'.pln = true ∧ ρ[k]? = some s') ∨ (s'.pln = false ∧ SlR cl K (c.grp i a as N h) F H' k σ[k]? s')) : Rl cl K (c.grp i a as N h) F ρ' σ H' where
  len := hl.trans R.len
  fh := fun x o e => by
    rw [ho x fun m => by rw [hF x m] at e; cases e]
    exact R.fh x o e
  f0 := R.f0
  fn := fun x e z => by
    have nm : x ∉ a :: as := fun m => e (hF x m)
    show N x = none
    rw [h.out x nm]
    exact R.fn x e z
  kp := fun x o e n => by
    have e : N x = some o := e
    by_cases m : x ∈ a :: as
    · rw [hi x m]
      exact e
    · rw [ho x m]
      rw [h.out x m] at e
      exact R.kp x o e n
  sl := fun k s' e => by
    rcases sl k s' e with ⟨pl, e0⟩ | ⟨_, q⟩
    · have q := R.sl k s' e0
      cases s' with
      | top => trivial
      | sh d => exact q
      | bo ds => exact q
      | bd ds => exact q
      | ow ds =>
        obtain ⟨b, vs, e1, h0, hf, hh, r⟩ := q
        have nm := ow k _ b e0 rfl e1
        exact ⟨b, vs, e1, (h.out b nm).trans h0, hf, (ho b nm).trans hh, r⟩
      | io ds =>
        obtain ⟨b, vs, e1, h0, hf, hh, r⟩ := q
        have nm := ow k _ b e0 rfl e1
        exact ⟨b, vs, e1, h0, hf, (ho b nm).trans hh, r⟩
      | dc ds =>
        obtain ⟨b, vs, e1, h0, hf, hh, r⟩ := q
        have nm := ow k _ b e0 rfl e1
        exact ⟨b, vs, e1, (h.out b nm).trans h0, hf, (ho b nm).trans hh, r⟩
      | on dss => cases pl
      | al o j ds => cases pl
    · exact q
  ap := fun k l s t x n e1 e2 o1 o2 => by
    have back : ∀ (k : Nat) (s : Sl), ρ'[k]? = some s → s.own = true → ρ[k]? = some s := fun k s e o => by
      rcases sl k s e with ⟨_, e0⟩ | ⟨pl, _⟩
      · exact e0
      · cases s <;> first | (cases o; done) | (cases pl; done)
    exact R.ap k l s t x n (back k s e1 o1) (back l t e2 o2) o1 o2
  io := fun j x m => by
    have nm : x ∉ a :: as := fun z => (h.fr x z).2.2 j m
    refine ⟨?_, ?_⟩
    · show N x ≠ none
      rw [h.out x nm]
      exact (R.io j x m).1
    · rw [ho x nm]
      exact (R.io j x m).2
/-- a slot of another group stays -/
theorem SlR.grp {k : Nat} {x : Option (Option V)} {s : Sl} (h : Gp c i a as N) (pl : s.pln = false) (ho : (∀ dss, s = .on dss → k ≠ i) ∧ ∀ o j ds, s = .al o j ds → o ≠ i) (q : SlR cl K c F H k x s) : SlR cl K (c.grp i a as N h) F H' k x s := by
  cases s with
  | on dss =>
    obtain ⟨b, bs, e, g, l, q⟩ := q
    have n := ho.1 dss rfl
    refine ⟨b, bs, e, by show (if k = i then _ else _) = _; rw [if_neg n]; exact g, l, fun j y ds h1 h2 => ?_⟩
    obtain ⟨vs, h3, r⟩ := q j y ds h1 h2
    have nm : y ∉ a :: as := fun m => h.dj k b bs y g n m (List.mem_cons_of_mem _ (List.mem_of_getElem? h1))
    exact ⟨vs, (h.out y nm).trans h3, r⟩
  | al o j ds =>
    obtain ⟨b, bs, y, vs, g, h1, e, h3, r⟩ := q
    have n := ho.2 o j ds rfl
    have nm : y ∉ a :: as := fun m => h.dj o b bs y g n m (List.mem_cons_of_mem _ (List.mem_of_getElem? h1))
    exact ⟨b, bs, y, vs, by show (if o = i then _ else _) = _; rw [if_neg n]; exact g, h1, e, (h.out y nm).trans h3, r⟩
  | _ => cases pl
/-- an own thing lies in no group -/
theorem Rl.own_out {j : Nat} {b : Addr} {bs : List Addr} (R : Rl cl K c F ρ σ H) (g : c.gh j = some (b, bs)) (k : Nat) (s : Sl) (x : Addr) (e : ρ[k]? = some s) (o : s.own = true) (z : σ[k]? = some (some (V.ref x))) : x ∉ b :: bs := fun m => by
  obtain ⟨f1, _, _, f4⟩ := c.gf j b bs x g m
  have q := R.sl k s e
  cases s with
  | ow ds =>
    obtain ⟨y, vs, e1, h0, _⟩ := q
    rw [z] at e1
    cases e1
    exact f1 h0
  | io ds =>
    obtain ⟨y, vs, e1, h0, _⟩ := q
    rw [z] at e1
    cases e1
    exact f4 k h0
  | dc ds =>
    obtain ⟨y, vs, e1, h0, _⟩ := q
    rw [z] at e1
    cases e1
    exact f1 h0
  | _ => cases o
theorem Rl.grp_F {j : Nat} {b x : Addr} {bs : List Addr} (R : Rl cl K c F ρ σ H) (g : c.gh j = some (b, bs)) (m : x ∈ b :: bs) : F x = none := by
  obtain ⟨f1, f2, _, _⟩ := c.gf j b bs x g m
  cases e : F x with
  | none => rfl
  | some o => exact absurd (R.fn x (by rw [e]; simp) f2) f1
theorem Rl.grp_H {j : Nat} {b x : Addr} {bs : List Addr} (R : Rl cl K c F ρ σ H) (g : c.gh j = some (b, bs)) (m : x ∈ b :: bs) : H x = c.H0 x := by
  obtain ⟨f1, _, _, f4⟩ := c.gf j b bs x g m
  cases e : c.H0 x with
  | none => exact absurd e f1
  | some o => exact R.kp x o e f4
/-! ### len(rows) -/
theorem e_leno {x : Str} (G : Gd X Γ cl g k W) (gl : Gl X "len") (hN : X.N[i]? = some x) (hv : Vis X.env.scope x) (h1 : (x == ("__debug__" : Str)) = false) (h2 : (x == ("__classdict__" : Str)) = false) : PE X (.Call (.Name "len" p) [.Name x p2] [] pos) (tE Γ cl X.K W (.leno i)) := by
  refine PE.weak (pe_callB call_len gl (G.bn _ (by decide +kernel)) (by decide +kernel) (pa_cons (pe_var hN hv h1 h2) pa_nil rfl) (by decide +kernel) (by decide +kernel) rfl rfl) fun σ H Q ⟨c, F, ρ, Q0, X0, R0, h, q, hx⟩ => ?_
  obtain ⟨dss, e, h⟩ := slG_of (s := ρ[i]?) (k := fun dss => Q0 (.sh (.int dss.length)) ρ) (by
    unfold slG
    exact h)
  obtain ⟨a, as, e1, gh, l, _⟩ := R0.sl i _ e
  have ha : H a = some (.lst (as.map V.ref)) := (R0.grp_H gh List.mem_cons_self).trans (c.gl i a as gh).1
  refine ⟨_, e1, _, _, rfl, .inl ⟨_, .of ha, rfl⟩, ?_⟩
  rw [List.length_map, l]
  exact q _ _ F _ H h (Same.refl F) R0 (.int _)
/-! ### row = rows[e] -/
theorem s_ali {o : Nat} {x y : Str} {e : Expr} {ee : E} {p' py : Pos} (G : Gd X Γ cl g k W) (hi : X.N[i]? = some x) (hx : X.env.scope.names.lookup x = some .local ∨ (X.env.scope.names.lookup x = some .cell ∧ X.fn x = true)) (hN : X.N[o]? = some y) (hv : Vis X.env.scope y) (h1 : (y == ("__debug__" : Str)) = false) (h2 : (y == ("__classdict__" : Str)) = false)
    (he : PE X e (tE Γ cl X.K W ee)) (hpl : PlainIx e) : PS X (.Assign [.Name x p'] (.Subscript (.Name y py) e p2) pos) (tS Γ cl X.K W (.ali i o ee)) :=
  PS.weak (ps_set G.nd hi (hx.imp id (·.1)) (pe_ix ix_list (pe_var hN hv h1 h2) he hpl) rfl (hx.elim .inr fun z => .inl z.2)) fun D σ H ⟨c, F, ρ, P, R0, h, q⟩ => by
    obtain ⟨dss0, e0, h⟩ := slG_of h
    obtain ⟨a, as, ea, gh, hl, _⟩ := R0.sl o _ e0
    refine ⟨_, ea, oneE (f := fun re ρ1 => wI (val ρ1 re) fun k => slG ρ1[o]? fun dss => w1 (L2.ixN dss.length k) fun j => w1 dss[j]? fun ds => i ≠ o ∧ isIo ρ1[i]? = false ∧ P.nx (ρ1.set i (.al o j ds))) R0 h q.exl fun re ρ1 F1 v H1 z m R1 rr => ?_⟩
    obtain ⟨n, en, z⟩ := wI_of z
    obtain ⟨dss, e1, z⟩ := slG_of z
    obtain ⟨j, ej, z⟩ := w1_of z
    obtain ⟨ds, ed, nio, ni, z⟩ := w1_of z
    have ev := vw_int (rr.vw R1 en)
    subst ev
    obtain ⟨a', as', ea', gh', hl', q'⟩ := R1.sl o _ e1
    rw [ea] at ea'
    cases ea'
    rw [gh] at gh'
    cases gh'
    have hj : j < as.length := by
      rw [hl']
      exact (List.getElem?_eq_some_iff.mp ed).1
    have eb : as[j]? = some as[j] := List.getElem?_eq_getElem hj
    generalize as[j] = b at eb
    obtain ⟨vs, hb, rs⟩ := q' j b ds eb ed
    have ha : H1 a = some (.lst (as.map V.ref)) := (R1.grp_H gh List.mem_cons_self).trans (c.gl o a as gh).1
    refine ⟨a, as.map V.ref, n, V.ref b, rfl, rfl, .of ha, ?_, ?_⟩
    · unfold atI
      rw [List.length_map, hl', ej, Option.bind_some, List.getElem?_map, eb] <;> rfl
    · have hs : SlR cl X.K c F1 H1 i (some (some (V.ref b))) (.al o j ds) := ⟨a, as, b, vs, gh, eb, rfl, hb, rs⟩
      by_cases hlt : i < σ.length
      · exact q.nx _ F1 _ H1 z m (R1.store hlt hs fun ow => by cases ow)
      · rw [List.set_eq_of_length_le (by rw [R1.len]; omega)] at z
        show D.nx (σ.set i _) H1
        rw [List.set_eq_of_length_le (by omega)]
        exact q.nx _ F1 _ H1 z m R1
/-! ### row.append(e) -/
theorem upG_get {o j : Nat} {new : List D} {k : Nat} {s' : Sl} (e : (upG o j new ρ)[k]? = some s') : ∃ s, ρ[k]? = some s ∧ s' = (match s with
    | .on dss => if k = o then .on (dss.set j new) else .on dss
    | .al o' j' ds => if o' = o ∧ j' = j then .al o j new else .al o' j' ds
    | s => s) := by
  unfold upG at e
  rw [List.getElem?_mapIdx] at e
  obtain ⟨s, e1, e2⟩ := Option.map_eq_some_iff.mp e
  exact ⟨s, e1, e2.symm⟩
/-- one of the lists is told anew -/
theorem Rl.upd {o j : Nat} {b : Addr} {vs' : List V} {new : List D} (R : Rl cl K c F ρ σ H) (gh : c.gh o = some (a, as)) (eb : as[j]? = some b) (rs : Reps cl K F vs' new) :
    ∃ c', Xt c c' ∧ Rl cl K c' F (upG o j new ρ) σ (upd H b (.lst vs')) := by
  have nd := (c.gl o a as gh).2
  have mb : b ∈ as := List.mem_of_getElem? eb
  have ab : a ≠ b := fun z => (List.nodup_cons.mp nd).1 (z ▸ mb)
  have gp : Gp c o a as (L2.upd c.H0 b (.lst vs')) := by
    refine ⟨fun x m => upd_ne fun z => m (z ▸ List.mem_cons_of_mem _ mb), ?_, fun y m => ?_, nd, fun y m => (c.gf o a as y gh m).2, fun l a' as' y g n m => c.gd o l a as a' as' y gh g (Ne.symm n) m⟩
    · rw [upd_ne ab]
      exact (c.gl o a as gh).1
    · by_cases z : y = b
      · rw [z, upd_same]
        simp
      · rw [upd_ne z]
        exact (c.gf o a as y gh (List.mem_cons_of_mem _ m)).1
  refine ⟨_, grp_xt gp, R.grp gp (by unfold upG; rw [List.length_mapIdx]) (fun x m => upd_ne fun z => m (z ▸ List.mem_cons_of_mem _ mb)) (fun x m => ?_) (fun x m => R.grp_F gh m) (fun k s x e ow z => R.own_out gh k s x e ow z) fun k s' e => ?_⟩
  · by_cases z : x = b
    · rw [z, upd_same, upd_same]
    · rw [upd_ne z, upd_ne z]
      exact R.grp_H gh m
  · obtain ⟨s, e0, e1⟩ := upG_get e
    have q := R.sl k s e0
    have same : (if o = o then some (a, as) else c.gh o) = some (a, as) := if_pos rfl
    cases s with
    | on dss =>
      refine .inr ?_
      dsimp only at e1
      by_cases z : k = o
      · subst z
        rw [if_pos rfl] at e1
        subst e1
        obtain ⟨a', as', e2, g2, l2, q2⟩ := q
        rw [gh] at g2
        cases g2
        refine ⟨rfl, a, as, e2, same, by rw [List.length_set]; exact l2, fun l y ds h1 h2 => ?_⟩
        by_cases w : l = j
        · subst w
          rw [eb] at h1
          cases h1
          have hl : l < dss.length := by
            rw [← l2]
            exact (List.getElem?_eq_some_iff.mp eb).1
          rw [List.getElem?_set_self hl] at h2
          cases h2
          exact ⟨vs', upd_same, rs⟩
        · rw [List.getElem?_set_ne (Ne.symm w)] at h2
          obtain ⟨ws, h3, r⟩ := q2 l y ds h1 h2
          have yb : y ≠ b := fun z => by
            subst z
            obtain ⟨l1, x1⟩ := List.getElem?_eq_some_iff.mp h1
            obtain ⟨l2', x2⟩ := List.getElem?_eq_some_iff.mp eb
            have pw := List.pairwise_iff_getElem.mp (List.nodup_cons.mp nd).2
            rcases Nat.lt_or_gt_of_ne w with z | z
            · exact pw l j l1 l2' z (x1.trans x2.symm)
            · exact pw j l l2' l1 z (x2.trans x1.symm)
          exact ⟨ws, (upd_ne yb).trans h3, r⟩
      · rw [if_neg z] at e1
        subst e1
        exact ⟨rfl, SlR.grp gp rfl ⟨fun _ _ => z, fun _ _ _ w => by cases w⟩ q⟩
    | al o' j' ds =>
      refine .inr ?_
      dsimp only at e1
      by_cases z : o' = o ∧ j' = j
      · rw [if_pos z] at e1
        subst e1
        obtain ⟨rfl, rfl⟩ := z
        obtain ⟨a', as', y, ws, g2, h1, e2, h3, r⟩ := q
        rw [gh] at g2
        cases g2
        rw [eb] at h1
        cases h1
        exact ⟨rfl, a, as, b, vs', same, eb, e2, upd_same, rs⟩
      · rw [if_neg z] at e1
        subst e1
        by_cases w : o' = o
        · subst w
          obtain ⟨a', as', y, ws, g2, h1, e2, h3, r⟩ := q
          rw [gh] at g2
          cases g2
          have yb : y ≠ b := fun z2 => by
            subst z2
            obtain ⟨l1, x1⟩ := List.getElem?_eq_some_iff.mp h1
            obtain ⟨l2', x2⟩ := List.getElem?_eq_some_iff.mp eb
            have pw := List.pairwise_iff_getElem.mp (List.nodup_cons.mp nd).2
            rcases Nat.lt_or_gt_of_ne (fun z3 => z ⟨rfl, z3⟩ : j' ≠ j) with z | z
            · exact pw j' j l1 l2' z (x1.trans x2.symm)
            · exact pw j j' l2' l1 z (x2.trans x1.symm)
          exact ⟨rfl, a, as, y, ws, same, h1, e2, (upd_ne yb).trans h3, r⟩
        · exact ⟨rfl, SlR.grp gp rfl ⟨fun _ w2 => (by cases w2), fun o2 j2 ds2 w2 => (by cases w2; exact w)⟩ q⟩
    | _ =>
      subst e1
      exact .inl ⟨rfl, e0⟩
theorem s_apa {x : Str} {e : Expr} {ee : E} {py cpos : Pos} (hN : X.N[i]? = some x) (hv : Vis X.env.scope x) (h1 : (x == ("__debug__" : Str)) = false) (h2 : (x == ("__classdict__" : Str)) = false) (he : PE X e (tE Γ cl X.K W ee))
    (hline : (apos.endLine == cpos.line) = true) (hst : starEach [e] X.env = (false, eval e X.env) :: starEach [] X.env) (hfew : few cpos e X.env) : PS X (.Expr (.Call (.Attribute (.Name x py) "append" apos) [e] [] cpos) pos) (tS Γ cl X.K W (.apa i ee)) :=
  PS.weak (ps_expr (pe_bm PySem.F.plainAttrs_list PySem.F.slot_list_append PySem.F.type_list_append mt_append (pe_var hN hv h1 h2) (pa_cons he pa_nil hst) rfl hfew hline hst rfl) rfl) fun D σ H ⟨c, F, ρ, P, R0, h, q⟩ => by
    obtain ⟨o0, j0, ds0, e0, h⟩ := slA_of h
    obtain ⟨a0, as0, b, ws, g0, eb0, ev, hb, _⟩ := R0.sl i _ e0
    have hb0 : H b = some (.lst ws) := (R0.grp_H g0 (List.mem_cons_of_mem _ (List.mem_of_getElem? eb0))).trans hb
    refine ⟨_, ev, .inl ⟨rfl, ws, .of hb0⟩, oneE (f := fun re ρ1 => w2 (keep ρ1 re) fun d ρ2 => slA ρ2[i]? fun o j ds => ds.length < line ∧ P.nx (upG o j (ds ++ [d]) ρ2)) R0 h q.exl fun re ρ1 F1 u H1 z m R1 rr => ?_⟩
    obtain ⟨d, ρ2, ek, z⟩ := w2_of z
    obtain ⟨o, j, ds, e1, hl, z⟩ := slA_of z
    obtain ⟨F2, m2, R2, rp⟩ := rr.keep R1 ek
    obtain ⟨a, as, b', vs, gh, eb, ev', hb', rs⟩ := R2.sl i _ e1
    rw [ev] at ev'
    cases ev'
    have hb1 : H1 b = some (.lst vs) := (R2.grp_H gh (List.mem_cons_of_mem _ (List.mem_of_getElem? eb))).trans hb'
    obtain ⟨c', xt, R3⟩ := R2.upd gh eb (rs.app (.cons rp .nil))
    exact ⟨b, vs, u, rfl, rfl, hb1, by rw [rs.len, sizeLine_line]; exact hl, (q.at xt).nx _ F2 _ _ z (m.trans m2) R3⟩
/-! ### rows = [[..]], rows.append([..]) -/
/-- what is new lies in no group, is none of the entry's -/
theorem Rl.new_fr {y : Addr} (R : Rl cl K c F ρ σ H) (hy : H y = none) : (c.F0 y = none ∧ c.B y = none ∧ ∀ j, (j, y) ∉ c.ios) ∧ ∀ j a' as', c.gh j = some (a', as') → y ∉ a' :: as' := by
  have h0 := R.new0 hy
  have hF := R.newF hy
  refine ⟨⟨?_, ?_, fun j m => (R.io j y m).2 hy⟩, fun j a' as' g m => (c.gf j a' as' y g m).1 h0⟩
  · cases e : c.F0 y with
    | none => rfl
    | some o =>
      rw [R.f0 y o e] at hF
      cases hF
  · cases e : c.B y with
    | none => rfl
    | some o =>
      rw [c.gB y o e] at h0
      cases h0
theorem noG_al {i : Nat} (h : noG i ρ = true) {k o j : Nat} {ds : List D} (e : ρ[k]? = some (.al o j ds)) : o ≠ i := by
  unfold noG at h
  rw [Bool.and_eq_true] at h
  have := List.all_eq_true.mp h.2 _ (List.mem_of_getElem? e)
  exact bne_iff_ne.mp this
theorem s_onw {x : Str} {es : List Expr} {ee : Es} {p' : Pos} {k1 k2 : Pos} (G : Gd X Γ cl g k W) (hi : X.N[i]? = some x) (hx : X.env.scope.names.lookup x = some .local ∨ (X.env.scope.names.lookup x = some .cell ∧ X.fn x = true)) (ha : PA X es (tEs Γ cl X.K W ee)) :
    PS X (.Assign [.Name x p'] (.List [.List es k1] k2) pos) (tS Γ cl X.K W (.onw i ee)) :=
  PS.weak (ps_set G.nd hi (hx.imp id (·.1)) (pe_lst (pa_cons (pe_lst ha) pa_nil rfl)) rfl (hx.elim .inr fun z => .inl z.2)) fun D σ H ⟨c, F, ρ, P, R0, h, q⟩ => by
    refine oneA R0 h q.exl fun rs ρ1 F1 vs H1 z m R1 hs => ?_
    obtain ⟨ds, ρ2, ek, hl, hil, hn, z⟩ := w2_of z
    obtain ⟨F2, m2, R2, rp⟩ := hs.keep R1 ek
    refine ⟨by rw [rp.len, sizeLine_line]; exact hl, fun b hb => ⟨by show 1 ≤ sizeLine; decide, fun a ha => ?_⟩⟩
    have ab : a ≠ b := fun z => by
      rw [z, upd_same] at ha
      cases ha
    have ha1 : H1 a = none := by
      rw [upd_ne ab] at ha
      exact ha
    have hlt : i < σ.length := by
      rw [← R2.len]
      exact hil
    have R3 : Rl cl X.K c F2 (ρ2.set i .top) (σ.set i (some (V.ref a))) H1 := R2.store hlt trivial fun o => by cases o
    have two : ∀ y, y ∈ a :: [b] → y = a ∨ y = b := fun y m => by simpa using m
    have nw : ∀ y, y ∈ a :: [b] → H1 y = none := fun y m => (two y m).elim (fun z => z ▸ ha1) fun z => z ▸ hb
    have gp : Gp c i a [b] (L2.upd (L2.upd c.H0 b (.lst vs)) a (.lst [V.ref b])) := by
      refine ⟨fun x m => ?_, upd_same, fun y m => ?_, List.nodup_cons.mpr ⟨by simpa using ab, by simp⟩, fun y m => (R2.new_fr (nw y m)).1, fun j a' as' y g _ m => (R2.new_fr (nw y m)).2 j a' as' g⟩
      · rw [upd_ne fun z => m (by rw [z]; simp), upd_ne fun z => m (by rw [z]; simp)]
      · rw [List.mem_singleton.mp m, upd_ne (Ne.symm ab), upd_same]
        simp
    have R4 : Rl cl X.K (c.grp i a [b] _ gp) F2 (ρ2.set i (.on [ds])) (σ.set i (some (V.ref a))) (L2.upd (L2.upd H1 b (.lst vs)) a (.lst [V.ref b])) := by
      refine R3.grp gp (by rw [List.length_set, List.length_set]) (fun x m => by rw [upd_ne fun z => m (by rw [z]; simp), upd_ne fun z => m (by rw [z]; simp)]) (fun x m => ?_) (fun x m => R2.newF (nw x m)) (fun k s x e ow z m => R3.ne_own (nw x m) k s e ow z) fun k s' e => ?_
      · rcases two x m with rfl | rfl
        · rw [upd_same, upd_same]
        · rw [upd_ne (Ne.symm ab), upd_ne (Ne.symm ab), upd_same, upd_same]
      · by_cases w : i = k
        · subst w
          rw [List.getElem?_set_self hil] at e
          cases e
          refine .inr ⟨rfl, a, [b], List.getElem?_set_self hlt, if_pos rfl, rfl, fun j y es h1 h2 => ?_⟩
          have hj : j = 0 := by
            have := (List.getElem?_eq_some_iff.mp h1).1
            simpa using this
          subst hj
          cases h1
          cases h2
          exact ⟨vs, by show L2.upd (L2.upd c.H0 b (.lst vs)) a _ b = _; rw [upd_ne (Ne.symm ab), upd_same], rp⟩
        · rw [List.getElem?_set_ne w] at e
          have e' : (ρ2.set i .top)[k]? = some s' := by
            rw [List.getElem?_set_ne w]
            exact e
          have q := R3.sl k s' e'
          cases hp : s'.pln with
          | true => exact .inl ⟨rfl, e'⟩
          | false => exact .inr ⟨rfl, SlR.grp gp hp ⟨fun _ _ => Ne.symm w, fun o j ds' ez => noG_al hn (ez ▸ e)⟩ q⟩
    exact (q.at (grp_xt gp)).nx _ F2 _ _ z (m.trans m2) R4
theorem s_ona {o : Nat} {x : Str} {es : List Expr} {ee : Es} {py k1 cpos : Pos} (hN : X.N[o]? = some x) (hv : Vis X.env.scope x) (h1 : (x == ("__debug__" : Str)) = false) (h2 : (x == ("__classdict__" : Str)) = false) (ha : PA X es (tEs Γ cl X.K W ee))
    (hline : (apos.endLine == cpos.line) = true) : PS X (.Expr (.Call (.Attribute (.Name x py) "append" apos) [.List es k1] [] cpos) pos) (tS Γ cl X.K W (.ona o ee)) :=
  PS.weak (ps_expr (pe_bm PySem.F.plainAttrs_list PySem.F.slot_list_append PySem.F.type_list_append mt_append (pe_var hN hv h1 h2) (pa_cons (pe_lst ha) pa_nil rfl) rfl rfl hline rfl rfl) rfl) fun D σ H ⟨c, F, ρ, P, R0, h, q⟩ => by
    obtain ⟨dss0, e0, h⟩ := slG_of h
    obtain ⟨a, as, ev, gh, _, _⟩ := R0.sl o _ e0
    have ha0 : H a = some (.lst (as.map V.ref)) := (R0.grp_H gh List.mem_cons_self).trans (c.gl o a as gh).1
    have nd := (c.gl o a as gh).2
    refine ⟨_, ev, .inl ⟨rfl, _, .of ha0⟩, oneA R0 h q.exl fun rs ρ1 F1 vs H1 z m R1 hs => ?_⟩
    obtain ⟨ds, ρ2, ek, z⟩ := w2_of z
    obtain ⟨dss, e1, hl, hl2, z⟩ := slG_of z
    obtain ⟨F2, m2, R2, rp⟩ := hs.keep R1 ek
    obtain ⟨a', as', ev', gh', len, q2⟩ := R2.sl o _ e1
    rw [ev] at ev'
    cases ev'
    rw [gh] at gh'
    cases gh'
    refine ⟨by rw [rp.len, sizeLine_line]; exact hl, fun p hp => ?_⟩
    have old : ∀ y ∈ a :: as, H1 y = c.H0 y ∧ y ≠ p := fun y my => ⟨R2.grp_H gh my, fun z => (c.gf o a as y gh my).1 (by rw [← R2.grp_H gh my, z]; exact hp)⟩
    have ap : a ≠ p := (old a List.mem_cons_self).2
    have ha1 : L2.upd H1 p (.lst vs) a = some (.lst (as.map V.ref)) := by
      rw [upd_ne ap, (old a List.mem_cons_self).1]
      exact (c.gl o a as gh).1
    have three : ∀ y, y ∈ a :: (as ++ [p]) → y ∈ a :: as ∨ y = p := fun y my => by
      rcases List.mem_cons.mp my with z | z
      · exact .inl (z ▸ List.mem_cons_self)
      · rcases List.mem_append.mp z with z | z
        · exact .inl (List.mem_cons_of_mem _ z)
        · exact .inr (List.mem_singleton.mp z)
    have ina : ∀ y ∈ as, y ≠ a := fun y my z => (List.nodup_cons.mp nd).1 (z ▸ my)
    have gp : Gp c o a (as ++ [p]) (L2.upd (L2.upd c.H0 p (.lst vs)) a (.lst ((as ++ [p]).map V.ref))) := by
      refine ⟨fun x mx => ?_, upd_same, fun y my => ?_, ?_, fun y my => (three y my).elim (fun z => (c.gf o a as y gh z).2) fun z => z ▸ (R2.new_fr hp).1, fun j a' as' y g n my => (three y my).elim (fun z => c.gd o j a as a' as' y gh g (Ne.symm n) z) fun z => z ▸ (R2.new_fr hp).2 j a' as' g⟩
      · rw [upd_ne fun z => mx (by rw [z]; simp), upd_ne fun z => mx (by rw [z]; simp)]
      · rcases List.mem_append.mp my with my | my
        · rw [upd_ne (ina y my), upd_ne (old y (List.mem_cons_of_mem _ my)).2]
          exact (c.gf o a as y gh (List.mem_cons_of_mem _ my)).1
        · rw [List.mem_singleton.mp my, upd_ne (Ne.symm ap), upd_same]
          simp
      · refine List.nodup_cons.mpr ⟨fun z => ?_, List.nodup_append.mpr ⟨(List.nodup_cons.mp nd).2, by simp, fun y my w mw => ?_⟩⟩
        · rcases List.mem_append.mp z with z | z
          · exact (List.nodup_cons.mp nd).1 z
          · exact ap (List.mem_singleton.mp z)
        · rw [List.mem_singleton.mp mw]
          exact (old y (List.mem_cons_of_mem _ my)).2
    have R4 : Rl cl X.K (c.grp o a (as ++ [p]) _ gp) F2 (ρ2.set o (.on (dss ++ [ds]))) σ (L2.upd (L2.upd H1 p (.lst vs)) a (.lst ((as ++ [p]).map V.ref))) := by
      refine R2.grp gp (by rw [List.length_set]) (fun x mx => by rw [upd_ne fun z => mx (by rw [z]; simp), upd_ne fun z => mx (by rw [z]; simp)]) (fun x mx => ?_) (fun x mx => (three x mx).elim (fun z => R2.grp_F gh z) fun z => z ▸ R2.newF hp) (fun k s x e ow z mx => (three x mx).elim (fun w => R2.own_out gh k s x e ow z w) fun w => R2.ne_own hp k s e ow (w ▸ z)) fun k s' e => ?_
      · by_cases xa : x = a
        · rw [xa, upd_same, upd_same]
        · rw [upd_ne xa, upd_ne xa]
          by_cases xp : x = p
          · rw [xp, upd_same, upd_same]
          · rw [upd_ne xp, upd_ne xp]
            exact (three x mx).elim (fun z => (old x z).1) fun z => absurd z xp
      · by_cases w : o = k
        · subst w
          rw [List.getElem?_set_self (List.getElem?_eq_some_iff.mp e1).1] at e
          cases e
          refine .inr ⟨rfl, a, as ++ [p], ev, if_pos rfl, by rw [List.length_append, List.length_append, len] <;> rfl, fun j y es h1 h2 => ?_⟩
          by_cases hj : j < as.length
          · rw [List.getElem?_append_left hj] at h1
            rw [List.getElem?_append_left (by rw [← len]; exact hj)] at h2
            obtain ⟨ws, h3, r⟩ := q2 j y es h1 h2
            have my := List.mem_of_getElem? h1
            exact ⟨ws, by show L2.upd (L2.upd c.H0 p (.lst vs)) a _ y = _; rw [upd_ne (ina y my), upd_ne (old y (List.mem_cons_of_mem _ my)).2]; exact h3, r⟩
          · have hj2 := (List.getElem?_eq_some_iff.mp h1).1
            rw [List.length_append] at hj2
            have hj3 : j = as.length := by
              have : j < as.length + 1 := hj2
              omega
            subst hj3
            rw [List.getElem?_append_right (Nat.le_refl _), Nat.sub_self] at h1
            rw [len, List.getElem?_append_right (Nat.le_refl _), Nat.sub_self] at h2
            cases h1
            cases h2
            exact ⟨vs, by show L2.upd (L2.upd c.H0 p (.lst vs)) a _ p = _; rw [upd_ne (Ne.symm ap), upd_same], rp⟩
        · rw [List.getElem?_set_ne w] at e
          have qs := R2.sl k s' e
          cases hp' : s'.pln with
          | true => exact .inl ⟨rfl, e⟩
          | false =>
            refine .inr ⟨rfl, ?_⟩
            cases s' with
            | on dss' => exact SlR.grp gp rfl ⟨fun _ _ => Ne.symm w, fun o' j' ds' ez => (by cases ez)⟩ qs
            | al o' j' ds' =>
              by_cases wo : o' = o
              · subst wo
                obtain ⟨a', as', y, ws, g2, h1', e2, h3, r⟩ := qs
                rw [gh] at g2
                cases g2
                have my := List.mem_of_getElem? h1'
                have hj := (List.getElem?_eq_some_iff.mp h1').1
                exact ⟨a, as ++ [p], y, ws, if_pos rfl, by rw [List.getElem?_append_left hj]; exact h1', e2, by show L2.upd (L2.upd c.H0 p (.lst vs)) a _ y = _; rw [upd_ne (ina y my), upd_ne (old y (List.mem_cons_of_mem _ my)).2]; exact h3, r⟩
              · exact SlR.grp gp rfl ⟨fun _ ez => (by cases ez), fun o2 j2 ds2 ez => (by cases ez; exact wo)⟩ qs
            | _ => cases hp'
    refine ⟨a, as.map V.ref, V.ref p, rfl, rfl, ha1, by rw [List.length_map, len, sizeLine_line]; exact hl2, ?_⟩
    have := (q.at (grp_xt gp)).nx _ F2 σ _ z (m.trans m2) R4
    rw [List.map_append] at this
    exact this
end
end M
set_option linter.all false
set_option Elab.async false
set_option maxRecDepth 100000
set_option maxHeartbeats 3200000
/-! MiniSs: set(xs) of a list of ints, with the table told. -/
namespace M
open PySem PySem.Spec PyProof.Rows L2
/-- a set as it is made -/
abbrev sNew (w : World) : Obj := { cls := .type "set", dict := none, data := .set #[] 0 (.fresh 0 0 (!w.params.followText "set-order")) }
section
variable {P : Program} {w : World} {A : Around} {E : Value → Shared → Prop} {s : Shared}
theorem call_setL {l : Addr} {its : Array Value} (ns : List Int) {Q : Value → Shared → Prop} (noH : A.handled = none) (isl : s.heap.IsList l its) (isI : IntsAre its.toList ns) (small : ns.length + 1 < scanBound)
    (fin : ∀ (g : Heap) (tk m : Nat), SetR w g s.heap.objs.size (fun j => decide (j ∈ ns)) m → m ≤ ns.length → (∀ b o, s.heap.get? b = some o → g.get? b = some o) → Q (.ref s.heap.objs.size) { s with heap := g, toks := tk }) :
    wpAny (model P w) A (call (.type "set") [.ref l]) Q E s := by
  have same : its.size = ns.length := by have q := IntsAre.length isI; rw [Array.length_toList] at q; exact q
  obtain ⟨mc, mt, mro⟩ := F.called_set.mro
  have w1 := F.called_set.made
  have w2 := F.called_set.sub
  refine wpAny_call (codeAny_of_tree ?_); show wpAny _ _ (callAny (.type "set") _) _ _ _
  refine wpAny_pure ⟨Code.quiet_builtin _ (by decide +kernel), codeAny_builtin F.entry_type_call ?_⟩; rw [Around.under_plain (weight_type_call_type "set" [.ref l] []) rfl]
  have w3 := F.called_set.notType
  have w4 := F.called_set.canCreate
  have w5 := F.typeCall_set_1 (.ref l)
  repeat (any_goals (first | assumption | (wp_step)))
  refine codeAny_mono (code_set_led1 (.ref l) (E := E) (Q₁ := fun ob s1 => ob = .ref s.heap.objs.size ∧ s1 = { s with heap := s.heap.push (sNew w) }) ⟨rfl, rfl⟩) fun r s1 hr => ?_
  cases r with
  | error e => exact hr
  | ok fl =>
    cases fl with
    | ret ob =>
      obtain ⟨rfl, rfl⟩ := hr
      have at0 : (s.heap.push (sNew w)).get? s.heap.objs.size = some (sNew w) := Heap.get?_push_size _ rfl
      have ty0 : Shared.TypeIs { s with heap := s.heap.push (sNew w) } (.ref s.heap.objs.size) "set" := ⟨_, at0, rfl⟩
      have w6 := F.called_set.init.lookup
      have w7 := F.called_set.init.bind (.ref s.heap.objs.size)
      repeat (any_goals (first | assumption | (wp_step)))
      refine codeAny_mono (codeAny_call_builtin (R := wants (fun r s2 => r = .none ∧ ∃ g tk m, s2 = { s with heap := g, toks := tk } ∧ SetR w g s.heap.objs.size (fun j => decide (j ∈ ns)) m ∧ m ≤ ns.length ∧ (∀ b o, s.heap.get? b = some o → g.get? b = some o)) E)
        F.called_set.init.plain F.entry_set_init (check_set_init_1 ty0 ?_)) fun r2 s2 hr2 => ?_
      · obtain ⟨ol, hol, hcl, nl, hdl⟩ := isl
        obtain ⟨ocls, odict, odata, oslots⟩ := ol; simp only at hcl hdl; subst hcl; subst hdl
        have olp : (s.heap.push (sNew w)).get? l = some { cls := .type "list", dict := odict, data := .seq its nl, slots := oslots } := Heap.get?_push_of_some _ hol
        have w8 := F.sub_list_set; have w9 := F.sub_list_frozenset
        have nd : (Value.type "list" == Value.type "dict") = false := by decide
        have isl1 : (s.heap.push (sNew w)).IsList l its := ⟨_, olp, rfl, nl, rfl⟩
        unfold Builtin.«set.__init__» noKeywords Builtin.Frozenset.updateFrom; generalize hPI : pyIter = PI
        wp_walk; subst hPI
        refine wpAny_pyIter_list isl1 ?_; refine wpAny_bind (wpAny_runValue ?_)
        have ls : l < s.heap.objs.size := Heap.lt_size hol
        have noH3 : A.in1.in1.in1.handled = none := by simp [noH]
        have big : (s.heap.push (sNew w)).objs.size = s.heap.objs.size + 1 := Heap.size_push ..
        have lne : l ≠ (s.heap.push (sNew w)).objs.size := Nat.ne_of_lt (Nat.lt_of_lt_of_eq (Nat.lt_succ_of_lt ls) big.symm)
        have out : s.heap.objs.size ∉ [(s.heap.push (sNew w)).objs.size, l] := by
          intro z
          rcases List.mem_cons.mp z with z | z
          · exact absurd (z.trans big) (Nat.ne_of_lt (Nat.lt_succ_self _))
          · exact absurd (List.mem_singleton.mp z) (Nat.ne_of_gt ls)
        have item : ∀ (i : Nat) (v : Value), its[i]? = some v → ∃ k t, ns[i]? = some k ∧ v = .int k t := fun i v hv => by
          have lt : i < ns.length := same ▸ (Array.getElem?_eq_some_iff.mp hv).1
          obtain ⟨t, e⟩ := PyProof.Rows.IntsAre.int_at isI i v (by rw [Array.getElem?_toList]; exact hv)
          exact ⟨ns[i], t, List.getElem?_eq_getElem lt, by rw [e, List.getD_eq_getElem?_getD, List.getElem?_eq_getElem lt] <;> rfl⟩
        refine set_update_ints ((Walks.list noH3 _ l lne its).toS) s.heap.objs.size out ns same small item (its.size - 0) 0 _ (by omega) (Nat.zero_le _) ⟨⟨_, Heap.get?_push_size _ rfl, rfl, rfl⟩, (isl1.push _)⟩ ⟨0, Nat.le_refl 0, setR_new_at (Heap.get?_push_of_some _ at0)⟩ ?_
        intro s3 m hm hle R3
        obtain ⟨g, g2, d2, tk, os2⟩ := s3
        have e1 : g2 = s.gens := hm.gens
        have e2 : d2 = s.drawn := hm.drawn
        have e3 : os2 = s.os := hm.os
        subst e1 e2 e3
        show wpAny _ _ _ _ _ _; refine wpAny_pure ?_; show wpAny _ _ (ret Value.none) _ _ _
        refine wpAny_pure ⟨rfl, g, tk, m, rfl, R3, same ▸ hle, fun b o e => ?_⟩
        have lb : b < s.heap.objs.size := Heap.lt_size e
        refine hm.heap b o (fun z => ?_) (Heap.get?_push_of_some _ (Heap.get?_push_of_some _ e))
        rcases List.mem_cons.mp z with z | z
        · exact absurd z (Nat.ne_of_lt lb)
        · exact absurd ((List.mem_singleton.mp z).trans big) (Nat.ne_of_lt (Nat.lt_succ_of_lt lb))
      · cases r2 with
        | error e => exact hr2
        | ok fl2 =>
          cases fl2 with
          | ret r =>
            obtain ⟨rfl, g, tk, m, rfl, R3, hle, hk⟩ := hr2
            repeat (any_goals (first | assumption | (wp_step)))
            exact fin _ _ _ R3 hle hk
          | _ => exact hr2.elim
    | _ => exact hr.elim
end
end M
set_option linter.all false
set_option Elab.async false
set_option maxRecDepth 10000
/-! MiniDx: dicts with ints for keys; sorted(set(xs)). -/
namespace M
open PySem PySem.Spec PyProof.Rows L2
section
variable {K : PySem.W.Frag} {cl : Str → Addr → Prop} {F : Hp}
theorem RepK.len : ∀ {vs kvs}, RepK cl K F vs kvs → vs.length = kvs.length
  | _, _, .nil => rfl
  | _, _, .cons _ r => congrArg Nat.succ r.len
theorem RepK.at {k : Int} : ∀ {vs kvs}, RepK cl K F vs kvs → (∀ d, atK kvs k = some d → ∃ v, valV vs (Sum.inl k) = some v ∧ Rep cl K F v d) ∧ (atK kvs k = none → valV vs (Sum.inl k) = none)
  | _, _, .nil => ⟨fun d h => (by cases h), fun _ => rfl⟩
  | _, _, @RepK.cons _ _ _ j v d vs kvs h r => by
    by_cases e : j = k
    · subst e
      have a : atK ((j, d) :: kvs) j = some d := by simp [atK]
      rw [a]
      refine ⟨fun d' h' => ?_, fun h' => by cases h'⟩
      cases h'
      exact ⟨v, valV_pos rfl, h⟩
    · have a : atK ((j, d) :: kvs) k = atK kvs k := by simp [atK, List.find?_cons, e]
      have b : valV ((Sum.inl j, v) :: vs) (Sum.inl k : Key) = valV vs (Sum.inl k) := valV_neg fun z => e (Sum.inl.inj z)
      rw [a, b]
      exact r.at
theorem RepK.any {k : Int} : ∀ {vs kvs}, RepK cl K F vs kvs → (vs.any fun kv => decide (kv.1 = (Sum.inl k : Key))) = kvs.any fun kv => decide (kv.1 = k)
  | _, _, .nil => rfl
  | _, _, @RepK.cons _ _ _ j v d vs kvs h r => by
    rw [List.any_cons, List.any_cons, r.any]
    congr 1
    by_cases e : j = k
    · simp [e]
    · simp [e]
theorem RepK.map1 {k : Int} {v : V} {d : D} (h : Rep cl K F v d) : ∀ {vs kvs}, RepK cl K F vs kvs → RepK cl K F (vs.map fun kv => if kv.1 = (Sum.inl k : Key) then (kv.1, v) else kv) (kvs.map fun kv => if kv.1 = k then (kv.1, d) else kv)
  | _, _, .nil => .nil
  | _, _, @RepK.cons _ _ _ j v' d' vs kvs h' r => by
    rw [List.map_cons, List.map_cons]
    by_cases e : j = k
    · rw [if_pos (show (Sum.inl j : Key) = Sum.inl k by rw [e]), if_pos e]
      exact .cons h (RepK.map1 h r)
    · rw [if_neg (show ¬ (Sum.inl j : Key) = Sum.inl k from fun z => e (Sum.inl.inj z)), if_neg e]
      exact .cons h' (RepK.map1 h r)
theorem RepK.snoc {k : Int} {v : V} {d : D} (h : Rep cl K F v d) : ∀ {vs kvs}, RepK cl K F vs kvs → RepK cl K F (vs ++ [(Sum.inl k, v)]) (kvs ++ [(k, d)])
  | _, _, .nil => .cons h .nil
  | _, _, .cons h' r => .cons h' (RepK.snoc h r)
theorem RepK.put {k : Int} {v : V} {d : D} {vs : List (Key × V)} {kvs : List (Int × D)} (r : RepK cl K F vs kvs) (h : Rep cl K F v d) : RepK cl K F (putK vs (Sum.inl k) v) (putI kvs k d) := by
  unfold putK putI
  rw [r.any]
  split
  · exact RepK.map1 h r
  · exact RepK.snoc h r
end
theorem slD_of {s : Option Sl} {k : List (Int × D) → Prop} (h : slD s k) : ∃ kvs, (s = some (.dc kvs) ∨ s = some (.bd kvs) ∨ s = some (.sh (.dct kvs))) ∧ k kvs := by
  unfold slD at h
  split at h
  · exact ⟨_, .inl rfl, h⟩
  · exact ⟨_, .inr (.inl rfl), h⟩
  · exact ⟨_, .inr (.inr rfl), h⟩
  · exact h.elim
theorem slC_of {s : Option Sl} {k : List (Int × D) → Prop} (h : slC s k) : ∃ kvs, s = some (.dc kvs) ∧ k kvs := by
  unfold slC at h
  split at h
  · exact ⟨_, rfl, h⟩
  · exact h.elim
theorem kyI_of {s : Option Sl} {k : Int → Prop} (h : kyI s k) : ∃ i, s = some (.sh (.int i)) ∧ k i := by
  unfold kyI at h
  split at h
  · exact ⟨_, rfl, h⟩
  · exact h.elim
section
variable {X : Cx} {Γ : Tb} {cl : Str → Addr → Prop} {K : PySem.W.Frag} {W : WX} {c : Ct} {F F' H H' : Hp} {ρ ρ' : En} {σ : L2.St} {v u : V} {pos p p2 p3 apos : Pos} {g : Bool} {k : Nat} {s : Shared} {pins : List (Addr × Obj)} {i : Nat}
/-- a dict's slot, in the heap -/
theorem Rl.dict {kvs : List (Int × D)} (R : Rl cl K c F ρ σ H) (e : ρ[i]? = some (.dc kvs) ∨ ρ[i]? = some (.bd kvs) ∨ ρ[i]? = some (.sh (.dct kvs))) : ∃ a vs, σ[i]? = some (some (.ref a)) ∧ H a = some (.dK vs) ∧ RepK cl K F vs kvs := by
  rcases e with e | e | e
  · obtain ⟨a, vs, e1, h0, hf, hh, r⟩ := R.sl i _ e
    exact ⟨a, vs, e1, hh, r⟩
  · obtain ⟨a, vs, e1, h0, hi, r⟩ := R.sl i _ e
    exact ⟨a, vs, e1, R.kp _ _ (c.gB _ _ h0) hi.1, r⟩
  · obtain ⟨x, e1, r⟩ := R.sl i _ e
    cases r with
    | dct h r => exact ⟨_, _, e1, R.fh _ _ h, r⟩
theorem G_u1 (G : Gd X Γ cl g k W) : X.A.units + 1 < cLine := by
  have := G.units
  omega
theorem e_dc0 : PE X (.Dict [] [] pos) (tE Γ cl X.K W .dc0) :=
  PE.weak pe_dnewK fun σ H Q ⟨c, F, ρ, Q0, X0, R0, h, q, hx⟩ p hp => by
    refine q _ _ F _ _ h (Same.refl F) (R0.alloc hp) ⟨p, [], rfl, R0.new0 hp, R0.newF hp, upd_same, .nil, fun i s e ho => R0.ne_own hp i s e ho⟩
theorem e_dc1 {x : Str} {j : Nat} (hN : X.N[i]? = some x) (hv : Vis X.env.scope x) (h1 : (x == ("__debug__" : Str)) = false) (h2 : (x == ("__classdict__" : Str)) = false) : PE X (.Dict [some (.Name x p)] [.Constant .none j p2] pos) (tE Γ cl X.K W (.dc1 i)) :=
  PE.weak (pe_disp (pps_cons (pe_var hN hv h1 h2) pe_non pps_nil) rfl rfl (by simp) (by simp)) fun σ H Q ⟨c, F, ρ, Q0, X0, R0, h, q, hx⟩ p hp => by
    obtain ⟨n, e, h⟩ := kyI_of h
    obtain ⟨x, ex, r⟩ := R0.sl i _ e
    cases r
    refine ⟨_, ex, upd_same, [(Sum.inl n, .non)], rfl, by simp, ?_⟩
    have e2 : L2.upd (L2.upd H p (.dK [])) p (.dK (mergeK [] [(Sum.inl n, .non)])) = L2.upd H p (.dK [(Sum.inl n, .non)]) := by
      funext b
      by_cases z : b = p
      · rw [z, upd_same, upd_same] <;> rfl
      · rw [upd_ne z, upd_ne z, upd_ne z]
    rw [e2]
    exact q _ _ F _ _ h (Same.refl F) (R0.alloc hp) ⟨p, _, rfl, R0.new0 hp, R0.newF hp, upd_same, .cons .non .nil, fun i s e ho => R0.ne_own hp i s e ho⟩
theorem e_dg {x : Str} {e : Expr} {ee : E} (G : Gd X Γ cl g k W) (hN : X.N[i]? = some x) (hv : Vis X.env.scope x) (h1 : (x == ("__debug__" : Str)) = false) (h2 : (x == ("__classdict__" : Str)) = false) (he : PE X e (tE Γ cl X.K W ee)) (hs : NoSl e) : PE X (.Subscript (.Name x p) e pos) (tE Γ cl X.K W (.dg i ee)) :=
  PE.weak (pe_dget (G_u1 G) (pe_var hN hv h1 h2) he hs) fun σ H Q ⟨c, F, ρ, Q0, X0, R0, h, q, hx⟩ => by
    obtain ⟨kvs0, e0, h⟩ := slD_of h
    obtain ⟨a, vs0, ea, _, _⟩ := R0.dict e0
    refine ⟨_, ea, oneE (f := fun r ρ1 => wI (val ρ1 r) fun k => slD ρ1[i]? fun kvs => w1 (atK kvs k) fun d => Q0 (.sh d) ρ1) R0 h hx fun re ρ1 F1 v H1 z m R1 rr => ?_⟩
    obtain ⟨n, en, z⟩ := wI_of z
    obtain ⟨kvs, e1, z⟩ := slD_of z
    obtain ⟨d, ed, z⟩ := w1_of z
    have ev := vw_int (rr.vw R1 en)
    subst ev
    obtain ⟨a', vs, ea', ha, r⟩ := R1.dict e1
    rw [ea] at ea'
    cases ea'
    obtain ⟨w, ew, rw'⟩ := r.at.1 d ed
    refine ⟨a, w, rfl, ?_, q _ _ F1 _ H1 z m R1 rw'⟩
    rw [← ew]
    exact DGet.k (k := Sum.inl n) ha
theorem din_core {neg : Bool} {x : Str} {ee : E} {Q : VK} {Q1 : QE} {X0 : QX} (R0 : Rl cl X.K c F ρ σ H) (h : dE Γ (.din neg ee i) ρ Q1 X0) (hx : ExL cl X.K c F σ W X0)
    (q : ∀ r ρ' F' v H', Q1 r ρ' → Same F F' → Rl cl X.K c F' ρ' σ H' → ResR cl X.K c F' ρ' σ H' v r → Q v H') : tE Γ cl X.K W ee σ H fun y H1 => ∃ v, σ[i]? = some (some v) ∧ ∃ a o, v = V.ref a ∧ DGet H1 a y o ∧ Q (.bl (o.isSome != neg)) H1 := by
  refine oneE (f := fun r ρ1 => wI (val ρ1 r) fun k => slD ρ1[i]? fun kvs => Q1 (.sh (.bl ((atK kvs k).isSome != neg))) ρ1) R0 h hx fun re ρ1 F1 v H1 z m R1 rr => ?_
  obtain ⟨n, en, z⟩ := wI_of z
  obtain ⟨kvs, e1, z⟩ := slD_of z
  have ev := vw_int (rr.vw R1 en)
  subst ev
  obtain ⟨a, vs, ea, ha, r⟩ := R1.dict e1
  have sm : (valV vs (Sum.inl n)).isSome = (atK kvs n).isSome := by
    cases e : atK kvs n with
    | none => rw [r.at.2 e] <;> rfl
    | some d =>
      obtain ⟨w, ew, _⟩ := r.at.1 d e
      rw [ew] <;> rfl
  refine ⟨_, ea, a, _, rfl, DGet.k (k := Sum.inl n) ha, ?_⟩
  rw [sm]
  exact q _ _ F1 _ H1 z m R1 (.bl _)
theorem e_din {neg : Bool} {x : Str} {e : Expr} {ee : E} (G : Gd X Γ cl g k W) (hN : X.N[i]? = some x) (hv : Vis X.env.scope x) (h1 : (x == ("__debug__" : Str)) = false) (h2 : (x == ("__classdict__" : Str)) = false) (he : PE X e (tE Γ cl X.K W ee)) :
    PE X (.Compare e [if neg = true then .NotIn else .In] [.Name x p] pos) (tE Γ cl X.K W (.din neg ee i)) := by
  cases neg with
  | false =>
    exact PE.weak (pe_cmp (pc_din (G_u1 G) he (pe_var hN hv h1 h2))) fun σ H Q ⟨c, F, ρ, Q0, X0, R0, h, q, hx⟩ => by
      obtain ⟨c', F', ρ', Q1, X1, R1, h1, q1, hx1⟩ := din_core (neg := false) (x := x) R0 h hx q
      refine ⟨c', F', ρ', Q1, X1, R1, h1, fun r ρ2 F2 v H2 z m R r1 => ?_, hx1⟩
      obtain ⟨w, ew, a, o, e1, dg, z⟩ := q1 r ρ2 F2 v H2 z m R r1
      refine ⟨w, ew, a, o, e1, dg, ?_⟩
      rw [Bool.bne_false] at z
      exact z
  | true =>
    exact PE.weak (pe_cmp (pc_dnotin (G_u1 G) he (pe_var hN hv h1 h2))) fun σ H Q ⟨c, F, ρ, Q0, X0, R0, h, q, hx⟩ => by
      obtain ⟨c', F', ρ', Q1, X1, R1, h1, q1, hx1⟩ := din_core (neg := true) (x := x) R0 h hx q
      refine ⟨c', F', ρ', Q1, X1, R1, h1, fun r ρ2 F2 v H2 z m R r1 => ?_, hx1⟩
      obtain ⟨w, ew, a, o, e1, dg, z⟩ := q1 r ρ2 F2 v H2 z m R r1
      refine ⟨w, ew, a, o, e1, dg, ?_⟩
      rw [Bool.bne_true] at z
      exact z
theorem din_coreT {neg : Bool} {ee : E} {Q : Bool → Hp → Prop} {Q0 : Bool → En → Prop} {X0 : QX} (R0 : Rl cl X.K c F ρ σ H) (h : dT Γ (.ex (.din neg ee i)) ρ Q0 X0) (hx : ExL cl X.K c F σ W X0)
    (q : ∀ t ρ' F' H', Q0 t ρ' → Same F F' → Rl cl X.K c F' ρ' σ H' → Q t H') : tE Γ cl X.K W ee σ H fun y H1 => ∃ v, σ[i]? = some (some v) ∧ ∃ a o, v = V.ref a ∧ DGet H1 a y o ∧ Q (o.isSome != neg) H1 := by
  refine oneE (f := fun r ρ1 => wI (val ρ1 r) fun k => slD ρ1[i]? fun kvs => Q0 ((atK kvs k).isSome != neg) ρ1) R0 h hx fun re ρ1 F1 v H1 z m R1 rr => ?_
  obtain ⟨n, en, z⟩ := wI_of z
  obtain ⟨kvs, e1, z⟩ := slD_of z
  have ev := vw_int (rr.vw R1 en)
  subst ev
  obtain ⟨a, vs, ea, ha, r⟩ := R1.dict e1
  have sm : (valV vs (Sum.inl n)).isSome = (atK kvs n).isSome := by
    cases e : atK kvs n with
    | none => rw [r.at.2 e] <;> rfl
    | some d =>
      obtain ⟨w, ew, _⟩ := r.at.1 d e
      rw [ew] <;> rfl
  refine ⟨_, ea, a, _, rfl, DGet.k (k := Sum.inl n) ha, ?_⟩
  rw [sm]
  exact q _ _ F1 _ z m R1
theorem b_din {neg : Bool} {x : Str} {e : Expr} {ee : E} (G : Gd X Γ cl g k W) (hN : X.N[i]? = some x) (hv : Vis X.env.scope x) (h1 : (x == ("__debug__" : Str)) = false) (h2 : (x == ("__classdict__" : Str)) = false) (he : PE X e (tE Γ cl X.K W ee)) :
    PT X (.Compare e [if neg = true then .NotIn else .In] [.Name x p] pos) (tB' Γ cl X.K W (.ex (.din neg ee i))) := by
  cases neg with
  | false =>
    exact PT.weak (pt_cmp (pc_din (G_u1 G) he (pe_var hN hv h1 h2))) fun σ H Q ⟨c, F, ρ, Q0, X0, R0, h, q, hx⟩ => by
      obtain ⟨c', F', ρ', Q1, X1, R1, h1, q1, hx1⟩ := din_coreT (neg := false) R0 h hx q
      refine ⟨c', F', ρ', Q1, X1, R1, h1, fun r ρ2 F2 v H2 z m R r1 => ?_, hx1⟩
      obtain ⟨w, ew, a, o, e1, dg, z⟩ := q1 r ρ2 F2 v H2 z m R r1
      rw [Bool.bne_false] at z
      exact ⟨w, ew, a, o, e1, dg, _, rfl, z⟩
  | true =>
    exact PT.weak (pt_cmp (pc_dnotin (G_u1 G) he (pe_var hN hv h1 h2))) fun σ H Q ⟨c, F, ρ, Q0, X0, R0, h, q, hx⟩ => by
      obtain ⟨c', F', ρ', Q1, X1, R1, h1, q1, hx1⟩ := din_coreT (neg := true) R0 h hx q
      refine ⟨c', F', ρ', Q1, X1, R1, h1, fun r ρ2 F2 v H2 z m R r1 => ?_, hx1⟩
      obtain ⟨w, ew, a, o, e1, dg, z⟩ := q1 r ρ2 F2 v H2 z m R r1
      rw [Bool.bne_true] at z
      exact ⟨w, ew, a, o, e1, dg, _, rfl, z⟩
theorem s_dst {x : Str} {e1 e2 : Expr} {ek ev : E} {pn p' : Pos} (G : Gd X Γ cl g k W) (hN : X.N[i]? = some x) (hv : Vis X.env.scope x) (h1 : (x == ("__debug__" : Str)) = false) (h2 : (x == ("__classdict__" : Str)) = false) (hk : PE X e1 (tE Γ cl X.K W ek)) (he : PE X e2 (tE Γ cl X.K W ev))
    (hs : swapsWith e2 (some (.Subscript (.Name x pn) e1 p')) pos.line X.env = pure false) : PS X (.Assign [.Subscript (.Name x pn) e1 p'] e2 pos) (tS Γ cl X.K W (.dst i ek ev)) :=
  PS.weak (ps_dput (G_u1 G) (pe_var hN hv h1 h2) hk he hs) fun D σ H ⟨c, F, ρ, P, R0, h, q⟩ => by
    refine oneE (f := fun rv ρ1 => slC ρ1[i]? fun _ => dE Γ ek ρ1 (fun rk ρ2 => wI (val ρ2 rk) fun n => w2 (keep ρ2 rv) fun d ρ3 => slC ρ3[i]? fun kvs => kvs.length < line ∧ P.nx (ρ3.set i (.dc (putI kvs n d)))) P.ex) R0 h q.exl fun rv ρ1 F1 v H1 z m R1 rr => ?_
    obtain ⟨kvs0, e0, z⟩ := slC_of z
    obtain ⟨F1', m1, R1', hl⟩ := rr.held R1
    obtain ⟨a, vs0, ea, _, _⟩ := R1'.dict (.inl e0)
    refine ⟨_, ea, oneE (f := fun rk ρ2 => wI (val ρ2 rk) fun n => w2 (keep ρ2 rv) fun d ρ3 => slC ρ3[i]? fun kvs => kvs.length < line ∧ P.nx (ρ3.set i (.dc (putI kvs n d)))) R1' z (q.exl.mono (m.trans m1)) fun rk ρ2 F2 y H2 z m2 R2 r2 => ?_⟩
    obtain ⟨n, en, z⟩ := wI_of z
    obtain ⟨d, ρ3, ek', z⟩ := w2_of z
    obtain ⟨kvs, e1, hl2, z⟩ := slC_of z
    have ey := vw_int (r2.vw R2 en)
    subst ey
    obtain ⟨F3, m3, R3, rp⟩ := (hl.mono m2).keep R2 ek'
    obtain ⟨b, vs, eb, h0, hf, hh, r⟩ := R3.sl i _ e1
    rw [ea] at eb
    cases eb
    refine ⟨a, _, rfl, DPut.k (k := Sum.inl n) hh (by rw [r.len, sizeLine_line]; exact hl2), ?_⟩
    exact q.nx _ F3 σ _ z (((m.trans m1).trans m2).trans m3) (mutw_core R3 e1 rfl ea hf hh (.inl h0) rfl ⟨a, _, rfl, h0, hf, upd_same, r.put rp⟩)
/-! ### sorted(set(xs)) -/
theorem uniq_nodup {ns : List Int} : (uniq ns).Nodup := by
  have go : ∀ (l acc : List Int), acc.Nodup → (l.foldl (fun met k => if met.any (· == k) = true then met else met ++ [k]) acc).Nodup := by
    intro l
    induction l with
    | nil => exact fun acc h => h
    | cons a l ih =>
      intro acc h
      rw [List.foldl_cons]
      split
      · exact ih acc h
      · rename_i n
        refine ih _ (List.nodup_append.mpr ⟨h, by simp, fun x hx y hy z => n ?_⟩)
        rw [List.mem_singleton.mp hy] at z
        exact List.any_eq_true.mpr ⟨x, hx, by simp [z]⟩
  exact go ns [] List.nodup_nil
theorem setR_card {w : World} {h : Heap} {a : Addr} {ns : List Int} {m : Nat} (R : SetR w h a (fun j => decide (j ∈ ns)) m) : m = card ns := by
  obtain ⟨o, es, ep, t, _, _, _, _, nd, mem, _, _, len, _⟩ := R
  have pm : (es.toList.map keyOf).Perm (uniq ns) := (List.perm_ext_iff_of_nodup nd uniq_nodup).mpr fun k => by
    rw [← mem k, mem_uniq]
    exact decide_eq_true_iff
  have := pm.length_eq
  rw [List.length_map, Array.length_toList, len] at this
  exact this
theorem boot_sorted : bootBuiltins "sorted" = some (.builtin "sorted") := by decide +kernel
def tSset (K : PySem.W.Frag) (ta : TE) : TE := fun σ H Q => ta σ H fun x H1 => ∃ (l : Addr) (ns : List Int), x = .ref l ∧ SqL K H1 l (ns.map V.int) ∧ (ns.length < 4000 ∧ card ns < 64) ∧
  ∀ (ms : List Int) (p : Addr), ms.Pairwise (· < ·) → (∀ k, k ∈ ms ↔ k ∈ ns) → H1 p = none → Q (.ref p) (upd H1 p (.lst (ms.map V.int)))
theorem pe_sset {a : Expr} {ta : TE} (gl : Gl X "sorted") (ml : X.mg "sorted" = none) (gs : Gl X "set") (ms : X.mg "set" = none) (pa : PE X a ta) (hc : X.calm = true) (na : starEach [a] X.env = (false, eval a X.env) :: starEach [] X.env) :
    PE X (.Call (.Name "sorted" p) [.Call (.Name "set" p2) [a] [] p3] [] pos) (tSset X.K ta) := by
  refine ⟨fun pins s σ H Q J q => Call_ (ld_blt J gl ml boot_sorted (callWith_builtin1 (args_cons (Call_ (ld_blt J gs ms boot_set (callWith_type1 (args_cons (thn (pa.run pins s σ H _ J q) ?_) na) na rfl))) rfl) rfl rfl))⟩
  rintro v s1 ⟨x, H1, J1, rx, l, ns, rfl, sq, ⟨small, few⟩, q1⟩
  refine args_nil ?_
  obtain rfl : v = Value.ref l := rx
  obtain ⟨its, vs, pl, _⟩ := J1.list sq
  refine call_setL ns (J1.ok.hd hc) pl.isList (by simpa using RZ.intsAre_vals vs) (by unfold scanBound; omega) fun g tk m R _ kp => args_nil ?_
  have em := setR_card R
  subst em
  have J2 : Inv X pins σ H1 { s1 with heap := g, toks := tk } := J1.kept kp
  refine sorted_set R (J2.ok.hd hc) few fun s2 p out cc ms k1 k2 k3 k4 k5 k6 k7 k8 k9 => ?_
  have hn : H1 p = none := J1.hok.fresh (by
    have : s1.heap.objs.size ≤ g.objs.size := Nat.le_of_lt R.lt
    exact Nat.le_trans this k4)
  have hz : (ms.map V.int).length ≤ sizeLine := by
    rw [List.length_map, k9, sizeLine_eq]
    omega
  obtain ⟨hp, gg, dd, tt, oo⟩ := s2
  obtain rfl : oo = s1.os := k3
  obtain rfl : gg = s1.gens := k2
  have ok : ObjOk X.prog X.w (upd H1 p (.lst (ms.map V.int))) hp p (.lst (ms.map V.int)) := ⟨hz, out.toList, cc, vals_of_ints k6, k5⟩
  exact ⟨.ref p, upd H1 p (.lst (ms.map V.int)), J2.call (s := { s1 with heap := g, toks := tk }) (ch := []) (h' := hp) (g' := s1.gens) (t' := tt) (d' := dd) (Un.laid k1 k4 hn) (J2.hok.laid k1 k4 ok) J2.bare (fun _ z => nomatch z), rfl, q1 ms p k7 (fun k => by rw [k8 k]; exact decide_eq_true_iff) hn⟩
theorem e_sset {a : Expr} {ee : E} (G : Gd X Γ cl g k W) (gl : Gl X "sorted") (gs : Gl X "set") (he : PE X a (tE Γ cl X.K W ee)) (hs : starEach [a] X.env = (false, eval a X.env) :: starEach [] X.env) : PE X (.Call (.Name "sorted" p) [.Call (.Name "set" p2) [a] [] p3] [] pos) (tE Γ cl X.K W (.sset ee)) := by
  refine PE.weak (pe_sset gl (G.bn _ (by decide +kernel)) gs (G.bn _ (by decide +kernel)) he G.calm hs) fun σ H Q ⟨c, F, ρ, Q0, X0, R0, h, q, hx⟩ => ?_
  refine oneE R0 h hx fun r ρ1 F1 v H1 z m R1 rr => ?_
  obtain ⟨ds, e1, z⟩ := wL_of z
  obtain ⟨ns, e2, z1, z⟩ := w1_of z
  obtain ⟨a', ws, rfl, ha, rp⟩ := rr.vw R1 e1
  rw [intsOf_map e2] at rp
  rw [reps_ints rp] at ha
  refine ⟨a', ns, rfl, .of ha, z1, fun ms p m1 m2 hp => ?_⟩
  obtain ⟨R2, r2⟩ := R1.fresh (vs := ms.map V.int) (ds := ms.map D.int) hp (reps_of_ints ms)
  exact q _ _ F1 _ _ (z ms m1 m2) m R2 r2
end
end M
set_option linter.all false
set_option Elab.async false
set_option maxRecDepth 10000
/-! MiniLd: an own list is lent while an expression is reckoned. -/
namespace M
open PySem PySem.Spec PyProof.Rows L2
def Ct.lend (c : Ct) (a : Addr) (vs : List V) (h0 : c.H0 a = none) : Ct where
  F0 := c.F0
  H0 := L2.upd c.H0 a (.lst vs)
  ios := c.ios
  bl := fun x => c.bl x ∨ x = a
  B := L2.upd c.B a (.lst vs)
  gh := c.gh
  hb := fun x h e => by
    by_cases z : x = a
    · rw [z, upd_same] at e
      cases e
    · rw [upd_ne z] at e
      rcases h with h | h
      · exact c.hb x h e
      · exact z h
  gB := fun x o e => by
    by_cases z : x = a
    · subst z
      rw [upd_same] at e ⊢
      exact e
    · rw [upd_ne z] at e ⊢
      exact c.gB x o e
  gl := fun i b as g => by
    obtain ⟨h1, h2⟩ := c.gl i b as g
    rw [upd_ne (ne_of_none h1 h0)]
    exact ⟨h1, h2⟩
  gf := fun i b as x g m => by
    obtain ⟨h1, h2, h3, h4⟩ := c.gf i b as x g m
    have z : x ≠ a := fun z => h1 (by rw [z]; exact h0)
    rw [upd_ne z, upd_ne z]
    exact ⟨h1, h2, h3, h4⟩
  gd := c.gd
section
variable {X : Cx} {Γ : Tb} {cl : Str → Addr → Prop} {K : PySem.W.Frag} {W : WX} {c c1 c2 : Ct} {F F' H H' : Hp} {ρ ρ' : En} {σ : L2.St} {v u : V} {pos : Pos} {g : Bool} {k i : Nat} {a : Addr} {vs : List V} {h0 : c.H0 a = none} {ds : List D}
/-- the entry's heap is told otherwise -/
theorem Rl.reB (R : Rl cl K c1 F ρ σ H) (e1 : c2.F0 = c1.F0) (e2 : c2.H0 = c1.H0) (e3 : c2.ios = c1.ios) (e4 : c2.gh = c1.gh) (b : ∀ (j : Nat) s, ρ[j]? = some s → (∀ ds, s = .bo ds → SlR cl K c2 F H j σ[j]? (.bo ds)) ∧ ∀ ds, s = .bd ds → SlR cl K c2 F H j σ[j]? (.bd ds)) : Rl cl K c2 F ρ σ H where
  len := R.len
  fh := R.fh
  f0 := by rw [e1]; exact R.f0
  fn := by rw [e1, e2]; exact R.fn
  kp := by rw [e2, e3]; exact R.kp
  sl := fun j s e => by
    have q := R.sl j s e
    cases s with
    | top => trivial
    | sh d => exact q
    | bo ds => exact (b j _ e).1 ds rfl
    | bd ds => exact (b j _ e).2 ds rfl
    | ow ds =>
      obtain ⟨x, vs, h1, h2, h3, h4, r⟩ := q
      exact ⟨x, vs, h1, by rw [e2]; exact h2, h3, h4, r⟩
    | io ds =>
      obtain ⟨x, vs, h1, h2, h3, h4, r⟩ := q
      exact ⟨x, vs, h1, by rw [e3]; exact h2, h3, h4, r⟩
    | dc ds =>
      obtain ⟨x, vs, h1, h2, h3, h4, r⟩ := q
      exact ⟨x, vs, h1, by rw [e2]; exact h2, h3, h4, r⟩
    | on dss =>
      obtain ⟨x, as, h1, h2, h3, h4⟩ := q
      exact ⟨x, as, h1, by rw [e4]; exact h2, h3, fun l b' ds' y1 y2 => by rw [e2]; exact h4 l b' ds' y1 y2⟩
    | al o l ds =>
      obtain ⟨x, as, b', vs, h1, h2, h3, h4, r⟩ := q
      exact ⟨x, as, b', vs, by rw [e4]; exact h1, h2, h3, by rw [e2]; exact h4, r⟩
  ap := R.ap
  io := by rw [e2, e3]; exact R.io
theorem Rl.lend (R : Rl cl K c F ρ σ H) (e : ρ[i]? = some (.ow ds)) : ∃ a vs, ∃ h0 : c.H0 a = none, σ[i]? = some (some (V.ref a)) ∧ Reps cl K F vs ds ∧ (c.F0 a = none ∧ ∀ j, (j, a) ∉ c.ios) ∧ Rl cl K (c.lend a vs h0) F (ρ.set i (.bo ds)) σ H := by
  obtain ⟨a, vs, ea, h0, hf, hh, r⟩ := R.sl i _ e
  have hi : i < ρ.length := (List.getElem?_eq_some_iff.mp e).1
  have f0 : c.F0 a = none := by
    cases z : c.F0 a with
    | none => rfl
    | some o =>
      rw [R.f0 a o z] at hf
      cases hf
  have ni : ∀ j, (j, a) ∉ c.ios := fun j z => (R.io j a z).1 h0
  have R1 : Rl cl K c F (ρ.set i .top) σ H := R.slot trivial fun z => by cases z
  have b : Beside c F (ρ.set i .top) σ H a (.lst vs) := ⟨h0, hf, hh, fun j s ej ow z => by
    by_cases y : i = j
    · subst y
      rw [List.getElem?_set_self hi] at ej
      cases ej
      cases ow
    · rw [List.getElem?_set_ne y] at ej
      exact R.ap i j _ s a y e ej rfl ow ea z⟩
  have R2 := R1.pin b
  have R3 : Rl cl K (c.lend a vs h0) F (ρ.set i .top) σ H := R2.reB (c2 := c.lend a vs h0) rfl rfl rfl rfl fun j s ej => by
    have q := R1.sl j s ej
    refine ⟨fun ds' z => ?_, fun ds' z => ?_⟩
    · subst z
      obtain ⟨x, ws, h1, h2, h3, r'⟩ := q
      have nx : x ≠ a := fun z => by
        have := c.gB x _ h2
        rw [z, h0] at this
        cases this
      exact ⟨x, ws, h1, (upd_ne nx).trans h2, ⟨h3.1, .inl h3.2⟩, r'⟩
    · subst z
      obtain ⟨x, ws, h1, h2, h3, r'⟩ := q
      have nx : x ≠ a := fun z => by
        have := c.gB x _ h2
        rw [z, h0] at this
        cases this
      exact ⟨x, ws, h1, (upd_ne nx).trans h2, ⟨h3.1, .inl h3.2⟩, r'⟩
  have R4 := R3.slot (i := i) (s' := .bo ds) ⟨a, vs, ea, upd_same, ⟨ni, .inr rfl⟩, r⟩ fun z => by cases z
  rw [List.set_set] at R4
  exact ⟨a, vs, h0, ea, r, ⟨f0, ni⟩, R4⟩
theorem sameB_set {s : Sl} : sameB i ρ (ρ.set i s) := fun j t n e _ => by
  rw [List.getElem?_set_ne (Ne.symm n)] at e
  exact e
theorem sameB_two {j : Nat} {s t : Sl} (h : t.isB = false) : sameB i ρ ((ρ.set i s).set j t) := fun l u n e b => by
  by_cases y : j = l
  · subst y
    rw [List.getElem?_set] at e
    split at e
    · split at e
      · cases e
        rw [h] at b
        cases b
      · cases e
    · exact absurd rfl (by assumption)
  · rw [List.getElem?_set_ne y, List.getElem?_set_ne (Ne.symm n)] at e
    exact e
theorem Rl.unlend {F0 H0 : Hp} (R0 : Rl cl K c F0 ρ σ H0) (e0 : ρ[i]? = some (.ow ds)) (ea : σ[i]? = some (some (V.ref a))) (r0 : Reps cl K F0 vs ds) (fr : c.F0 a = none ∧ ∀ j, (j, a) ∉ c.ios) (m : Same F0 F) (R : Rl cl K (c.lend a vs h0) F ρ' σ H) (sb : sameB i ρ ρ') :
    Rl cl K c F (ρ'.set i (.ow ds)) σ H ∧ (∀ b, (c.lend a vs h0).H0 b = none → c.H0 b = none ∧ b ≠ a) := by
  have hi : i < σ.length := (List.getElem?_eq_some_iff.mp ea).1
  have R1 : Rl cl K (c.lend a vs h0) F (ρ'.set i .top) σ H := R.slot trivial fun z => by cases z
  have R2 : Rl cl K (c.pin a (.lst vs) h0) F (ρ'.set i .top) σ H := R1.reB (c2 := c.pin a (.lst vs) h0) rfl rfl rfl rfl fun j s ej => by
    by_cases y : i = j
    · subst y
      rw [List.getElem?_set_self (by rw [R.len]; exact hi)] at ej
      cases ej
      exact ⟨fun _ z => (by cases z), fun _ z => (by cases z)⟩
    · have q := R1.sl j s ej
      rw [List.getElem?_set_ne y] at ej
      refine ⟨fun ds' z => ?_, fun ds' z => ?_⟩
      · subst z
        obtain ⟨x, ws, h1, h2, h3, r'⟩ := q
        obtain ⟨x', ws', h1', h2', h3', _⟩ := R0.sl j _ (sb j _ (Ne.symm y) ej rfl)
        rw [h1] at h1'
        cases h1'
        have nx : x ≠ a := fun z => by
          have := c.gB x _ h2'
          rw [z, h0] at this
          cases this
        have h2 : L2.upd c.B a (.lst vs) x = some (.lst ws) := h2
        rw [upd_ne nx] at h2
        exact ⟨x, ws, h1, h2, h3', r'⟩
      · subst z
        obtain ⟨x, ws, h1, h2, h3, r'⟩ := q
        obtain ⟨x', ws', h1', h2', h3', _⟩ := R0.sl j _ (sb j _ (Ne.symm y) ej rfl)
        rw [h1] at h1'
        cases h1'
        have nx : x ≠ a := fun z => by
          have := c.gB x _ h2'
          rw [z, h0] at this
          cases this
        have h2 : L2.upd c.B a (.lst vs) x = some (.dK ws) := h2
        rw [upd_ne nx] at h2
        exact ⟨x, ws, h1, h2, h3', r'⟩
  obtain ⟨R3, b⟩ := R2.unpin fr.1 fr.2
  have R4 := R3.store (i := i) (s' := .ow ds) (v := V.ref a) hi ⟨a, vs, rfl, h0, b.f, b.h, r0.mono m⟩ fun _ j s _ ej ow => b.ne j s ej ow
  have es : σ.set i (some (V.ref a)) = σ := by
    obtain ⟨hj, e⟩ := List.getElem?_eq_some_iff.mp ea
    rw [← e, List.set_getElem_self]
  rw [List.set_set, es] at R4
  refine ⟨R4, fun b e => ?_⟩
  by_cases z : b = a
  · rw [z] at e
    have e : L2.upd c.H0 a (.lst vs) a = none := e
    rw [upd_same] at e
    cases e
  · have e : L2.upd c.H0 a (.lst vs) b = none := e
    rw [upd_ne z] at e
    exact ⟨e, z⟩
theorem slO_of {s : Option Sl} {k : List D → Prop} (h : slO s k) : ∃ ds, s = some (.ow ds) ∧ k ds := by
  unfold slO at h
  split at h
  · exact ⟨_, rfl, h⟩
  · exact h.elim
theorem e_lend {e : Expr} {ee : E} (he : PE X e (tE Γ cl X.K W ee)) : PE X e (tE Γ cl X.K W (.lend i ee)) :=
  PE.weak he fun σ H Q ⟨c, F, ρ, Q0, X0, R0, h, q, hx⟩ => by
    obtain ⟨ds, e0, h⟩ := slO_of h
    obtain ⟨a, vs, h0, ea, r0, fr, R1⟩ := R0.lend e0
    refine ⟨c.lend a vs h0, F, ρ.set i (.bo ds), _, _, R1, h, fun r ρ' F' v H' z m R' rr => ?_, fun x ρ' F' H' cc d z m R' ex => ?_⟩
    · obtain ⟨ok, sb, z⟩ := z
      obtain ⟨R2, dn⟩ := R0.unlend e0 ea r0 fr m R' sb
      refine q r _ F' v H' z m R2 ?_
      cases r with
      | sh d => exact rr
      | fr acc =>
        obtain ⟨b, ws, rfl, b0, bf, bh, br, ne⟩ := rr
        obtain ⟨b1, nb⟩ := dn b b0
        refine ⟨b, ws, rfl, b1, bf, bh, br, fun j s ej ow => ?_⟩
        by_cases y : i = j
        · subst y
          rw [ea]
          exact fun z => nb (by cases z; rfl)
        · rw [List.getElem?_set_ne y] at ej
          exact ne j s ej ow
      | br j => cases ok
      | fd kvs => cases ok
    · obtain ⟨sb, z⟩ := z
      exact hx x _ F' H' cc d z m (R0.unlend e0 ea r0 fr m R' sb).1 ex
end
end M
set_option linter.all false
set_option Elab.async false
set_option maxRecDepth 10000
/-! MiniN: what stands in a text, looked at by a computation. -/
namespace M
open PySem PySem.Spec PyProof.Rows L2

/-! ### forms -/
def noStar : Expr → Bool
  | .Starred _ _ => false
  | _ => true
theorem star_ok {e : Expr} {es : List Expr} {env : PySem.Env} (h : noStar e = true) : starEach (e :: es) env = (false, eval e env) :: starEach es env := by
  cases e <;> first | rfl | cases h
theorem asg_ok {e : Expr} {es : List Expr} {env : PySem.Env} (h : noStar e = true) : (assignEach (e :: es) env).map (·.2) = assign e env :: (assignEach es env).map (·.2) := by
  cases e <;> first | rfl | cases h
theorem asg_len {env : PySem.Env} : ∀ {es : List Expr}, (assignEach es env).length = es.length
  | [] => rfl
  | e :: es => by
    cases e <;> exact congrArg Nat.succ (asg_len (es := es))
theorem asg_find {env : PySem.Env} : ∀ {es : List Expr}, es.all noStar = true → (assignEach es env).findIdx? (·.1) = none
  | [], _ => rfl
  | e :: es, h => by
    rw [List.all_cons, Bool.and_eq_true] at h
    have ih := asg_find (env := env) h.2
    have : assignEach (e :: es) env = (false, assign e env) :: assignEach es env := by
      cases e <;> first | rfl | cases h.1
    rw [this, List.findIdx?_cons, ih] <;> rfl
theorem star_any {pos : Pos} {env : PySem.Env} : ∀ {es : List Expr}, es.all noStar = true → (backTo pos (starEach es env)).any (·.1) = false
  | [], _ => rfl
  | e :: es, h => by
    rw [List.all_cons, Bool.and_eq_true] at h
    rw [star_ok h.1]
    have ih := star_any (pos := pos) (env := env) h.2
    show (false || (backTo pos (starEach es env)).any (·.1)) = false
    rw [ih] <;> rfl
theorem star_all {pos : Pos} {env : PySem.Env} : ∀ {es : List Expr}, es.all noStar = true → (backTo pos (starEach es env)).all (fun x => !x.1) = true
  | [], _ => rfl
  | e :: es, h => by
    rw [List.all_cons, Bool.and_eq_true] at h
    rw [star_ok h.1]
    have ih := star_all (pos := pos) (env := env) h.2
    show (true && (backTo pos (starEach es env)).all (fun x => !x.1)) = true
    rw [ih] <;> rfl
theorem few_ok {cp : Pos} {a : Expr} {env : PySem.Env} (h : noStar a = true) : few cp a env := by
  unfold few
  rw [star_all (by rw [List.all_cons, h] <;> rfl)] <;> rfl
def noSup : Expr → Bool
  | .Call (.Name _ _) [] [] _ => false
  | _ => true
theorem base_ok {o : Expr} {f : Str} {env : PySem.Env} {w : Sem Value} (h : noSup o = true) : attributeBase o f env w = w := by
  cases o with
  | Call fn as ks p =>
    cases fn with
    | Name x q =>
      cases as with
      | nil =>
        cases ks with
        | nil => cases h
        | cons _ _ => rfl
      | cons _ _ => rfl
    | _ => rfl
  | _ => rfl
def noSlice : Expr → Bool
  | .Slice _ _ _ _ => false
  | _ => true
theorem nosl_ok {b : Expr} (h : noSlice b = true) : NoSl b := fun o i => by
  cases b <;> first | rfl | cases h
theorem ix_ok {b : Expr} (h : noSlice b = true) : PlainIx b := fun o i => by
  cases b <;> first | rfl | cases h
theorem set_ok {o i : Expr} {p' : Pos} {env : PySem.Env} (h : noSlice i = true) (v : Value) : assign (.Subscript o i p') env v = (do
      let a ← holding [v] (eval o env)
      let b ← holding [v, a] (eval i env)
      standAt p'
      holding [v, a, b] (setItem a b v)
      release [v, a, b] []) := by
  cases i <;> first | rfl | cases h
theorem augs_ok {i : Expr} (h : noSlice i = true) (ov iv new : Value) : augStore i ov iv new = (do holding [new, ov, iv] (setItem ov iv new); release [new, ov, iv] []; pure .next) := by
  cases i <;> first | rfl | cases h
def plainT : Expr → Bool
  | .UnaryOp .Not _ _ => false
  | .BoolOp _ _ _ => false
  | .IfExp _ _ _ _ => false
  | .Compare _ _ _ _ => false
  | _ => true
theorem true_ok {a : Expr} {env : PySem.Env} (h : plainT a = true) (whole : Sem Value) : isTrue a env whole = (do let v ← whole; standAt a.pos; holding [v] (truthy v)) := by
  cases a with
  | UnaryOp op x p => cases op <;> first | rfl | cases h
  | BoolOp _ _ _ => cases h
  | IfExp _ _ _ _ => cases h
  | Compare _ _ _ _ => cases h
  | _ => rfl
def notSet : Expr → Bool
  | .Set _ _ _ => false
  | _ => true
theorem fold_ok {e : Expr} {env : PySem.Env} (h : notSet e = true) (x : Value) : foldedSetIterable e env x = pure x := by
  cases e <;> first | rfl | cases h
def notComp : Expr → Bool
  | .ListComp _ _ _ _ => false
  | .SetComp _ _ _ _ => false
  | .DictComp _ _ _ _ _ => false
  | _ => true
theorem swap_ok {e : Expr} {t : Option Expr} {l : Nat} {env : PySem.Env} (h : notComp e = true) : swapsWith e t l env = pure false := by
  cases e <;> first | rfl | cases h
def notName : Expr → Bool
  | .Name _ _ => false
  | _ => true
theorem sole_ok {e t : Expr} {l : Nat} {env : PySem.Env} (h : notName t = true) : swapsWithSole [t] e l env = pure false := by
  show swapsWith e (some t) l env = pure false
  cases e <;> first | rfl | (cases t <;> first | rfl | cases h)
def notTupL : Expr → Bool
  | .Tuple _ _ _ => false
  | _ => true
theorem swap_sub {e a b : Expr} {p : Pos} {l : Nat} {env : PySem.Env} : swapsWith e (some (.Subscript a b p)) l env = pure false := by cases e <;> rfl
theorem stores_ok {e t : Expr} {env : PySem.Env} (h : notTupL e = true) : swappedStores [t] e env = pure none := by
  cases t <;> first | rfl | (cases e <;> first | rfl | cases h)
theorem stores_ok2 {e o i : Expr} {p : Pos} {env : PySem.Env} : swappedStores [.Subscript o i p] e env = pure none := by
  cases e <;> rfl
/-- [..] bound to one of its own names -/
theorem swap_own {elt : Expr} {gs : List Comprehension} {scope : Scope} {p p' : Pos} {x : Str} {l : Nat} {env : PySem.Env} (h : (scope.names.any fun (n, k) => n == x && (k == .local || k == .cell)) = true) : swapsWith (.ListComp elt gs scope p) (some (.Name x p')) l env = pure false := by
  unfold swapsWith
  show pure (env.blockKind == .function && env.kindOf x == some .local && p'.line == p.line && !(scope.names.any fun (n, k) => n == x && (k == .local || k == .cell))) = pure false
  rw [h, Bool.not_true, Bool.and_false]
theorem meth_eval {o : Expr} {m : Str} {es : List Expr} {apos pos : Pos} {env : PySem.Env} (h : noSup o = true) (hs : es.all noStar = true) (hn : es.length < 30) (hl : (apos.endLine == pos.line) = true) : eval (.Call (.Attribute o m apos) es [] pos) env = (do
      let ov ← eval o env
      standAt apos.atName
      let (f, first) ← holding [ov] (getMethod ov m (do return (← importBound o env).getD true))
      callWith pos f first (backTo pos (starEach es env)) (backToKw pos (keywordEach [] env))) := by
  rw [arm_eval_Call, base_ok h]
  have few : methodCallForm (es.length + ([] : List Keyword).length) (backTo pos (starEach es env)) (backToKw pos (keywordEach [] env)) = true := by
    unfold methodCallForm
    rw [star_all hs]
    have : (es.length + ([] : List Keyword).length + (if (backToKw pos (keywordEach [] env)).isEmpty = true then 0 else 1)) < 30 := hn
    simp only [Bool.true_and]
    exact decide_eq_true this
  unfold methodCall
  rw [few]
  unfold calleeOf methodCallPos
  rw [hl]
  rfl
end M
set_option linter.all false
set_option Elab.async false
set_option maxRecDepth 10000
/-! MiniO: a text looked at by a computation. -/
namespace M
open PySem PySem.Spec PyProof.Rows L2
def vis (sc : Scope) (x : Str) : Bool := match sc.names.lookup x with
  | some .local => true
  | some .cell => true
  | some .free => true
  | _ => false
def glo (sc : Scope) (x : Str) : Bool := match sc.names.lookup x with
  | some .globalImplicit => true
  | _ => false
def sto (sc : Scope) (fn : Str → Bool) (x : Str) : Bool := match sc.names.lookup x with
  | some .local => true
  | some .cell => fn x
  | _ => false
def okn (x : Str) : Bool := !(x == ("__debug__" : Str)) && !(x == ("__classdict__" : Str))
def at_ (N : List Str) (i : Nat) (x : Str) : Bool := decide (N[i]? = some x)
def isCell (scope : Scope) : Str → Bool := fun x => scope.names.lookup x == some .cell
def isDin : E → Bool
  | .din _ _ _ => true
  | _ => false
mutual
def ckG (N : List Str) : T → Scope → (Str → Bool) → Expr → Bool
  | .nm i, sc, fn, x => match x with
    | .Name y _ => at_ N i y && sto sc fn y
    | _ => false
  | .tp a r, sc, fn, x => match x with
    | .Tuple (e :: es) _ _ => ckG N a sc fn e && ckGs N r sc fn es && decide (es.length = r.len) && noStar e && es.all noStar
    | _ => false
  | .tz, _, _, _ => false
def ckGs (N : List Str) : T → Scope → (Str → Bool) → List Expr → Bool
  | .tp a r, sc, fn, x => match x with
    | e :: es => ckG N a sc fn e && ckGs N r sc fn es && noStar e
    | [] => false
  | .tz, _, _, x => x.isEmpty
  | .nm _, _, _, _ => false
end
section
variable (g : Bool) (N : List Str) (Γ : Tb)
mutual
def ckE : E → Scope → (Str → Bool) → Expr → Bool
  | .var i, sc, fn, x => match x with
    | .Name y _ => at_ N i y && vis sc y && okn y
    | _ => false
  | .int n, sc, fn, x => match x with
    | .Constant (.int m) _ _ => decide (m = n)
    | _ => false
  | .bl n, sc, fn, x => match x with
    | .Constant (.bool m) _ _ => decide (m = n)
    | _ => false
  | .non, sc, fn, x => match x with
    | .Constant .none _ _ => true
    | _ => false
  | .str n, sc, fn, x => match x with
    | .Constant (.str m) _ _ => decide (m = n)
    | _ => false
  | .bin op a b, sc, fn, x => match x with
    | .BinOp l o r _ => decide (o = opK op) && ckE a sc fn l && ckE b sc fn r
    | _ => false
  | .neg a, sc, fn, x => match x with
    | .UnaryOp .USub l _ => ckE a sc fn l
    | _ => false
  | .cmp op a b, sc, fn, x => match x with
    | .Compare l [o] [r] _ => decide (o = cmK op) && !behindInMarks o r && ckE a sc fn l && ckE b sc fn r
    | _ => false
  | .chn p q a b c, sc, fn, x => match x with
    | .Compare l [o, o'] [r, r'] _ => decide (o = cmK p) && decide (o' = cmK q) && !lastMarks [o, o'] [r, r'] && ckE a sc fn l && ckE b sc fn r && ckE c sc fn r'
    | _ => false
  | .not a, sc, fn, x => match x with
    | .UnaryOp .Not l _ => ckE a sc fn l
    | _ => false
  | .and as, sc, fn, x => match x with
    | .BoolOp .And xs _ => ckV as sc fn xs
    | _ => false
  | .or as, sc, fn, x => match x with
    | .BoolOp .Or xs _ => ckV as sc fn xs
    | _ => false
  | .ife c a b, sc, fn, x => match x with
    | .IfExp t l r _ => ckT c sc fn t && ckE a sc fn l && ckE b sc fn r
    | _ => false
  | .tup as, sc, fn, x => match x with
    | .Tuple xs _ _ => ckA as sc fn xs
    | _ => false
  | .lst as, sc, fn, x => match x with
    | .List xs _ => ckA as sc fn xs
    | _ => false
  | .ix a b, sc, fn, x => match x with
    | .Subscript l r _ => noSlice r && ckE a sc fn l && ckE b sc fn r
    | _ => false
  | .sl a lo hi, sc, fn, x => match x with
    | .Subscript l (.Slice y z none _) _ => ckE a sc fn l && ckO lo sc fn y && ckO hi sc fn z
    | _ => false
  | .rev a, sc, fn, x => match x with
    | .Subscript l (.Slice none none (some (.UnaryOp .USub (.Constant (.int 1) _ _) _)) _) _ => ckE a sc fn l
    | _ => false
  | .call f as, sc, fn, x => match x with
    | .Call (.Name n _) (e :: es) [] _ => decide (n = f) && glo sc n && okn n && (Γ.f f).isSome && noStar e && es.all noStar && ckA as sc fn (e :: es)
    | _ => false
  | .callk f as ks kas, sc, fn, x => match x with
    | .Call (.Name n _) (e :: es) kws _ => decide (n = f) && glo sc n && okn n && (Γ.fk f ks).isSome && noStar e && es.all noStar && ckA as sc fn (e :: es) && ckK kas ks sc fn kws
    | _ => false
  | .make f as, sc, fn, x => match x with
    | .Call (.Name n _) (e :: es) [] _ => decide (n = f) && glo sc n && okn n && (Γ.mke f).isSome && noStar e && es.all noStar && ckA as sc fn (e :: es)
    | _ => false
  | .bi f as, sc, fn, x => match x with
    | .Call (.Name n _) (e :: es) [] _ => decide (n = biN f) && biG g f && glo sc n && noStar e && es.all noStar && ckA as sc fn (e :: es)
    | _ => false
  | .leni a, sc, fn, x => match x with
    | .Call (.Name n _) [e] [] _ => decide (n = "len") && glo sc n && noStar e && ckE a sc fn e
    | _ => false
  | .isi a c, sc, fn, x => match x with
    | .Call (.Name n _) [e, .Name y _] [] _ => decide (n = "isinstance") && glo sc n && decide (y = c) && glo sc y && okn y && Γ.isn c && noStar e && ckE a sc fn e
    | _ => false
  | .meth o m as, sc, fn, x => match x with
    | .Call (.Attribute e n ap) es [] p => decide (n = m) && noSup e && es.all noStar && decide (es.length < 30) && (ap.endLine == p.line) && ckE o sc fn e && ckA as sc fn es
    | _ => false
  | .attr o f, sc, fn, x => match x with
    | .Attribute e n _ => decide (n = f) && noSup e && ckE o sc fn e
    | _ => false
  | .prop o f, sc, fn, x => match x with
    | .Attribute e n _ => decide (n = f) && noSup e && ckE o sc fn e
    | _ => false
  | .index o a, sc, fn, x => match x with
    | .Call (.Attribute l n ap) [e] [] cp => decide (n = "index") && noSup l && noStar e && (ap.endLine == cp.line) && ckE o sc fn l && ckE a sc fn e
    | _ => false
  | .eqi a b, sc, fn, x => match x with
    | .Compare l [.Eq] [r] _ => !behindInMarks .Eq r && ckE a sc fn l && ckE b sc fn r
    | _ => false
  | .lc elt tg it ifs own, sc, fn, x => match x with
    | .ListComp el [⟨t, iter, ts, k⟩] scope _ => decide (k = 0) && blkC N sc scope own && (tIx tg).all (fun i => decide (i ∈ own.map (·.2))) && notSet iter && ckI it sc fn t iter && ckG N tg (relS scope sc) (isCell scope) t && ckF ifs (relS scope sc) (isCell scope) ts && ckE elt (relS scope sc) (isCell scope) el
    | _ => false
  | .lrg as, sc, fn, x => match x with
    | .Call (.Name n _) [.Call (.Name m _) [a] [] _] [] _ => decide (n = "list") && glo sc n && decide (m = "range") && glo sc m && noStar a && (match as with
      | .cons e .nil => ckE e sc fn a
      | _ => false)
    | .Call (.Name n _) [.Call (.Name m _) [a, b] [] _] [] _ => decide (n = "list") && glo sc n && decide (m = "range") && glo sc m && noStar a && noStar b && (match as with
      | .cons e (.cons e' .nil) => ckE e sc fn a && ckE e' sc fn b
      | _ => false)
    | _ => false
  | .leno i, sc, fn, x => match x with
    | .Call (.Name n _) [.Name y _] [] _ => decide (n = "len") && glo sc n && at_ N i y && vis sc y && okn y
    | _ => false
  | .lend _ a, sc, fn, x => ckE a sc fn x
  | .dc0, sc, fn, x => match x with
    | .Dict [] [] _ => true
    | _ => false
  | .dc1 i, sc, fn, x => match x with
    | .Dict [some (.Name y _)] [.Constant .none _ _] _ => at_ N i y && vis sc y && okn y
    | _ => false
  | .dg i a, sc, fn, x => match x with
    | .Subscript (.Name y _) e _ => at_ N i y && vis sc y && okn y && noSlice e && ckE a sc fn e
    | _ => false
  | .din neg a i, sc, fn, x => match x with
    | .Compare e [op] [.Name y _] _ => decide (op = if neg = true then .NotIn else .In) && at_ N i y && vis sc y && okn y && ckE a sc fn e
    | _ => false
  | .sset a, sc, fn, x => match x with
    | .Call (.Name n _) [.Call (.Name m _) [e] [] _] [] _ => decide (n = "sorted") && glo sc n && decide (m = "set") && glo sc m && noStar e && ckE a sc fn e
    | _ => false
  | .lset a, sc, fn, x => match x with
    | .Call (.Name n _) [.Call (.Name m _) [e] [] _] [] _ => decide (n = "len") && glo sc n && decide (m = "set") && glo sc m && noStar e && ckE a sc fn e
    | _ => false
  | .lsc elt tg it own, sc, fn, x => match x with
    | .Call (.Name n _) [.SetComp el [⟨t, iter, [], k⟩] scope _] [] _ => decide (n = "len") && glo sc n && decide (k = 0) && blkC N sc scope own && (tIx tg).all (fun i => decide (i ∈ own.map (·.2))) && notSet iter && ckI it sc fn t iter && ckG N tg (relS scope sc) (isCell scope) t && ckE elt (relS scope sc) (isCell scope) el
    | _ => false
  | .isb a c, sc, fn, x => match x with
    | .Call (.Name n _) [e, .Name y _] [] _ => decide (n = "isinstance") && glo sc n && decide (y = c) && glo sc y && noStar e && (decide (c = "int") || (decide (c = "list") || decide (c = "tuple"))) && ckE a sc fn e
    | _ => false
def ckK : Es → List Str → Scope → (Str → Bool) → List Keyword → Bool
  | .nil, ks, _, _, kws => ks.isEmpty && kws.isEmpty
  | .cons a r, ks, sc, fn, kws => match ks, kws with
    | k :: ks, ⟨some n, e, _⟩ :: kws => decide (n = k) && ckE a sc fn e && ckK r ks sc fn kws
    | _, _ => false
def ckA : Es → Scope → (Str → Bool) → List Expr → Bool
  | .nil, _, _, xs => xs.isEmpty
  | .cons a r, sc, fn, xs => match xs with
    | x :: xs => ckE a sc fn x && noStar x && ckA r sc fn xs
    | [] => false
def ckV : Es → Scope → (Str → Bool) → List Expr → Bool
  | .nil, _, _, xs => false
  | .cons a r, sc, fn, xs => match xs with
    | x :: xs => ckE a sc fn x && (match r with
      | .nil => xs.isEmpty
      | .cons _ _ => ckV r sc fn xs)
    | [] => false
def ckO : Es → Scope → (Str → Bool) → Option Expr → Bool
  | .nil, _, _, x => x.isNone
  | .cons a _, sc, fn, x => match x with
    | some x => ckE a sc fn x
    | none => false
def ckT : B → Scope → (Str → Bool) → Expr → Bool
  | .ex e, sc, fn, x => (plainT x || isDin e) && ckE e sc fn x
  | .cmp op a b, sc, fn, x => match x with
    | .Compare l [o] [r] _ => decide (o = cmK op) && !behindInMarks o r && ckE a sc fn l && ckE b sc fn r
    | _ => false
  | .chn p q a b c, sc, fn, x => match x with
    | .Compare l [o, o'] [r, r'] _ => decide (o = cmK p) && decide (o' = cmK q) && !lastMarks [o, o'] [r, r'] && ckE a sc fn l && ckE b sc fn r && ckE c sc fn r'
    | _ => false
  | .not a, sc, fn, x => match x with
    | .UnaryOp .Not l _ => ckT a sc fn l
    | _ => false
  | .and as, sc, fn, x => match x with
    | .BoolOp .And xs _ => ckB as sc fn xs
    | _ => false
  | .or as, sc, fn, x => match x with
    | .BoolOp .Or xs _ => ckB as sc fn xs
    | _ => false
def ckB : Bs → Scope → (Str → Bool) → List Expr → Bool
  | .nil, _, _, xs => false
  | .cons a r, sc, fn, xs => match xs with
    | x :: xs => ckT a sc fn x && (match r with
      | .nil => xs.isEmpty
      | .cons _ _ => ckB r sc fn xs)
    | [] => false
def ckF : Bs → Scope → (Str → Bool) → List Expr → Bool
  | .nil, _, _, xs => xs.isEmpty
  | .cons a _, sc, fn, xs => match xs with
    | [x] => ckT a sc fn x
    | _ => false
def ckI : I → Scope → (Str → Bool) → Expr → Expr → Bool
  | .ex e, sc, fn, _, x => ckE e sc fn x
  | .rng as, sc, fn, _, x => match x with
    | .Call (.Name n _) [a] [] _ => decide (n = "range") && glo sc n && noStar a && (match as with
      | .cons e .nil => ckE e sc fn a
      | _ => false)
    | .Call (.Name n _) [a, b] [] _ => decide (n = "range") && glo sc n && noStar a && noStar b && (match as with
      | .cons e (.cons e' .nil) => ckE e sc fn a && ckE e' sc fn b
      | _ => false)
    | _ => false
  | .enu e, sc, fn, t, x => !notTupL t && (match x with
    | .Call (.Name n _) [a] [] _ => decide (n = "enumerate") && glo sc n && noStar a && ckE e sc fn a
    | _ => false)
  | .zip e e', sc, fn, t, x => !notTupL t && (match x with
    | .Call (.Name n _) [a, b] [] _ => decide (n = "zip") && glo sc n && noStar a && noStar b && ckE e sc fn a && ckE e' sc fn b
    | _ => false)
end
mutual
def ckHX (sc : Scope) (n : Str) : HX → Expr → Bool
  | .int k, x => match x with
    | .Constant (.int m) _ _ => decide (m = k)
    | _ => false
  | .str k, x => match x with
    | .Constant (.str m) _ _ => decide (m = k)
    | _ => false
  | .non, x => match x with
    | .Constant .none _ _ => true
    | _ => false
  | .bl k, x => match x with
    | .Constant (.bool m) _ _ => decide (m = k)
    | _ => false
  | .att f, x => match x with
    | .Attribute (.Name m _) f' _ => decide (m = n) && decide (f' = f)
    | _ => false
  | .tup as, x => match x with
    | .Tuple xs _ _ => ckHXs sc n as xs
    | _ => false
  | .ife c a b, x => match x with
    | .IfExp t l r _ => ckHB sc n c t && ckHX sc n a l && ckHX sc n b r
    | _ => false
def ckHXs (sc : Scope) (n : Str) : HXs → List Expr → Bool
  | .nil, xs => xs.isEmpty
  | .cons a r, xs => match xs with
    | x :: xs => ckHX sc n a x && noStar x && ckHXs sc n r xs
    | [] => false
def ckHB (sc : Scope) (n : Str) : HB → Expr → Bool
  | .is c, x => match x with
    | .Call (.Name j _) [.Name m _, .Name y _] [] _ => decide (j = "isinstance") && glo sc j && decide (m = n) && decide (y = c) && glo sc y && okn y && (Γ.isx c c).isSome
    | _ => false
  | .not a, x => match x with
    | .UnaryOp .Not l _ => ckHB sc n a l
    | _ => false
  | .and a b, x => match x with
    | .BoolOp .And [l, r] _ => ckHB sc n a l && ckHB sc n b r
    | _ => false
end
def ckHS (sc : Scope) (n : Str) : HS → List Stmt → Bool
  | .ret a, x => match x with
    | [.Return (some e) _] => ckHX Γ sc n a e
    | _ => false
  | .iff c a r, x => match x with
    | .If t [.Return (some e) _] [] _ :: rest => ckHB Γ sc n c t && ckHX Γ sc n a e && ckHS sc n r rest
    | _ => false
def notLend : E → Bool
  | .lend _ _ => false
  | _ => true
def isLC : Expr → Bool
  | .ListComp _ _ _ _ => true
  | _ => false
def augOk : Op → Bool
  | .add => true
  | .sub => true
  | _ => false
mutual
def ckS : S → Scope → (Str → Bool) → Stmt → Bool
  | .asg tg e, sc, fn, x => match x with
    | .Assign [t] v p => (match tg with
      | .nm i => (match t with
        | .Name y q => at_ N i y && sto sc fn y && ckE g N Γ e sc fn v && (notComp v || (isLC v && notLend e))
        | _ => false)
      | .tp a r => ckG N (.tp a r) sc fn t && notTupL v && noStar t && ckE g N Γ e sc fn v
      | .tz => false)
    | _ => false
  | .par _ _ _ _, _, _, _ => false
  | .set o i e, sc, fn, x => match x with
    | .Assign [.Subscript l r _] v _ => noSlice r && ckE g N Γ o sc fn l && ckE g N Γ i sc fn r && ckE g N Γ e sc fn v
    | _ => false
  | .aug i op e, sc, fn, x => match x with
    | .AugAssign (.Name y _) o v _ => at_ N i y && sto sc fn y && decide (o = augK op) && ckE g N Γ e sc fn v
    | _ => false
  | .augs o i op e, sc, fn, x => match x with
    | .AugAssign (.Subscript l r _) o' v _ => noSlice r && decide (o' = augK op) && ckE g N Γ o sc fn l && ckE g N Γ i sc fn r && ckE g N Γ e sc fn v
    | _ => false
  | .app o e, sc, fn, x => match x with
    | .Expr (.Call (.Attribute l n ap) [a] [] cp) _ => decide (n = "append") && noSup l && noStar a && (ap.endLine == cp.line) && ckE g N Γ o sc fn l && ckE g N Γ e sc fn a
    | _ => false
  | .ext o e, sc, fn, x => match x with
    | .Expr (.Call (.Attribute l n ap) [a] [] cp) _ => decide (n = "extend") && noSup l && noStar a && (ap.endLine == cp.line) && ckE g N Γ o sc fn l && ckE g N Γ e sc fn a
    | _ => false
  | .onw i as, sc, fn, x => match x with
    | .Assign [.Name y _] (.List [.List xs _] _) _ => at_ N i y && sto sc fn y && ckA g N Γ as sc fn xs
    | _ => false
  | .ona o as, sc, fn, x => match x with
    | .Expr (.Call (.Attribute (.Name y _) n ap) [.List xs _] [] cp) _ => decide (n = "append") && at_ N o y && vis sc y && okn y && (ap.endLine == cp.line) && ckA g N Γ as sc fn xs
    | _ => false
  | .ali i o e, sc, fn, x => match x with
    | .Assign [.Name y _] (.Subscript (.Name z _) ix _) _ => at_ N i y && sto sc fn y && at_ N o z && vis sc z && okn z && noSlice ix && ckE g N Γ e sc fn ix
    | _ => false
  | .apa i e, sc, fn, x => match x with
    | .Expr (.Call (.Attribute (.Name y _) n ap) [a] [] cp) _ => decide (n = "append") && at_ N i y && vis sc y && okn y && noStar a && (ap.endLine == cp.line) && ckE g N Γ e sc fn a
    | _ => false
  | .dst o k v, sc, fn, x => match x with
    | .Assign [.Subscript (.Name y _) e _] v' _ => at_ N o y && vis sc y && okn y && ckE g N Γ k sc fn e && ckE g N Γ v sc fn v'
    | _ => false
  | .pop i o, sc, fn, x => match x with
    | .Assign [.Name y _] (.Call (.Attribute l n ap) [] [] cp) _ => at_ N i y && sto sc fn y && decide (n = "pop") && noSup l && (ap.endLine == cp.line) && ckE g N Γ o sc fn l
    | _ => false
  | .ex e, sc, fn, x => match x with
    | .Expr v _ => notComp v && ckE g N Γ e sc fn v
    | _ => false
  | .ret e, sc, fn, x => match x with
    | .Return (some v) _ => ckE g N Γ e sc fn v
    | _ => false
  | .retn, sc, fn, x => match x with
    | .Return none _ => true
    | _ => false
  | .iff c a b, sc, fn, x => match x with
    | .If t l r _ => ckT g N Γ c sc fn t && ckSs a sc fn l && ckSs b sc fn r
    | _ => false
  | .whl c b, sc, fn, x => match x with
    | .While t l [] _ => ckT g N Γ c sc fn t && ckSs b sc fn l
    | _ => false
  | .forr tg it b, sc, fn, x => match x with
    | .For t iter l [] _ => ckG N tg sc fn t && notSet iter && ckI g N Γ it sc fn t iter && ckSs b sc fn l
    | _ => false
  | .brk, _, _, x => match x with
    | .Break _ => true
    | _ => false
  | .cnt, _, _, x => match x with
    | .Continue _ => true
    | _ => false
  | .pass, _, _, x => match x with
    | .Pass _ => true
    | _ => false
  | .rais c as, sc, fn, x => match x with
    | .Raise (some (.Call (.Name n _) (e :: es) [] _)) none _ => decide (n = c) && glo sc n && okn n && (Γ.exn c).isSome && noStar e && es.all noStar && ckA g N Γ as sc fn (e :: es)
    | _ => false
  | .tryx b i c h, sc, fn, x => match x with
    | .Try bd [.ExceptHandler (some (.Name y _)) (some n) (s0 :: su) _] [] [] _ => decide (y = c) && glo sc y && okn y && (Γ.isx c c).isSome && at_ N i n && sto sc (fun _ => false) n && okn n && ckSs b sc fn bd && ckHS Γ sc n h (s0 :: su)
    | _ => false
  | .dead, _, _, _ => true
def ckSs : Ss → Scope → (Str → Bool) → List Stmt → Bool
  | .nil, _, _, xs => xs.isEmpty
  | .cons a r, sc, fn, xs => match xs with
    | x :: xs => ckS a sc fn x && ckSs r sc fn xs
    | [] => false
end
end
end M
set_option linter.all false
set_option Elab.async false
set_option maxRecDepth 10000
/-! MiniP: what was looked at holds. -/
namespace M
open PySem PySem.Spec PyProof.Rows L2
structure Nv (X : Cx) (N : List Str) (sc : Scope) (fn : Str → Bool) : Prop where
  eN : X.N = N
  eS : X.env.scope = sc
  eF : ∀ x, X.fn x = fn x
  eK : sc.kind = .function
section
variable {g : Bool} {N : List Str} {Γ : Tb} {cl : Str → Addr → Prop} {k : Nat}
theorem at_ok {X : Cx} {sc : Scope} {fn : Str → Bool} {i : Nat} {x : Str} (V : Nv X N sc fn) (h : at_ N i x = true) : X.N[i]? = some x := by
  rw [V.eN]
  exact of_decide_eq_true h
theorem vis_ok {X : Cx} {sc : Scope} {fn : Str → Bool} {x : Str} (V : Nv X N sc fn) (h : vis sc x = true) : Vis X.env.scope x := by
  rw [V.eS]
  unfold vis at h
  split at h
  · exact .inl (by assumption)
  · exact .inr (.inl (by assumption))
  · exact .inr (.inr (by assumption))
  · cases h
theorem glo_ok {X : Cx} {sc : Scope} {fn : Str → Bool} {x : Str} (V : Nv X N sc fn) (h : glo sc x = true) : Gl X x := by
  show X.env.scope.names.lookup x = _
  rw [V.eS]
  unfold glo at h
  split at h
  · assumption
  · cases h
theorem sto_ok {X : Cx} {sc : Scope} {fn : Str → Bool} {x : Str} (V : Nv X N sc fn) (h : sto sc fn x = true) : X.env.scope.names.lookup x = some .local ∨ (X.env.scope.names.lookup x = some .cell ∧ X.fn x = true) := by
  rw [V.eS, V.eF]
  unfold sto at h
  split at h
  · exact .inl (by assumption)
  · exact .inr ⟨by assumption, h⟩
  · cases h
theorem okn1 {x : Str} (h : okn x = true) : (x == ("__debug__" : Str)) = false := by
  unfold okn at h
  rw [Bool.and_eq_true, Bool.not_eq_true'] at h
  exact h.1
theorem okn2 {x : Str} (h : okn x = true) : (x == ("__classdict__" : Str)) = false := by
  unfold okn at h
  rw [Bool.and_eq_true, Bool.not_eq_true', Bool.not_eq_true'] at h
  exact h.2
theorem nil_of {α : Type} {xs : List α} (h : xs.isEmpty = true) : xs = [] := by
  cases xs with
  | nil => rfl
  | cons _ _ => cases h
theorem Nv.blk {X : Cx} {sc scope : Scope} {fn : Str → Bool} {s : Shared} {H : Hp} {C : Addr} {cc : List (Str × Addr)} {fp : List Addr} (V : Nv X N sc fn) (h : scope.kind = .function) : Nv (X.blk s H scope (compEnvC scope cc C X.env) fp) N (relS scope sc) (isCell scope) :=
  ⟨V.eN, by rw [← V.eS]; rfl, fun _ => rfl, h⟩
mutual
theorem sG : ∀ (t : T) {X : Cx} {sc : Scope} {fn : Str → Bool} (hc : X.calm = true) (hn : X.N.Nodup) (V : Nv X N sc fn) (x : Expr), ckG N t sc fn x = true → PG X x (tG cl X.K t)
  | .nm i, X, sc, fn, hc, hn, V, x, h => by
    unfold ckG at h
    split at h
    · rw [Bool.and_eq_true] at h
      exact g_name hn (at_ok V h.1) (sto_ok V h.2)
    · cases h
  | .tp a r, X, sc, fn, hc, hn, V, x, h => by
    unfold ckG at h
    split at h
    · simp only [Bool.and_eq_true, decide_eq_true_eq] at h
      obtain ⟨⟨⟨⟨h1, h2⟩, h3⟩, h4⟩, h5⟩ := h
      exact g_tup hc (gs_cons (sG a hc hn V _ h1) (sGs r hc hn V _ h2) (asg_ok h4)) (by rw [asg_len, List.length_cons, h3]) (asg_find (by rw [List.all_cons, h4, h5] <;> rfl))
    · cases h
  | .tz, X, sc, fn, hc, hn, V, x, h => by
    unfold ckG at h
    cases h
theorem sGs : ∀ (t : T) {X : Cx} {sc : Scope} {fn : Str → Bool} (hc : X.calm = true) (hn : X.N.Nodup) (V : Nv X N sc fn) (x : List Expr), ckGs N t sc fn x = true → PGs X x (tGs cl X.K t)
  | .nm i, X, sc, fn, hc, hn, V, x, h => by
    unfold ckGs at h
    cases h
  | .tp a r, X, sc, fn, hc, hn, V, x, h => by
    unfold ckGs at h
    split at h
    · simp only [Bool.and_eq_true] at h
      exact gs_cons (sG a hc hn V _ h.1.1) (sGs r hc hn V _ h.1.2) (asg_ok h.2)
    · cases h
  | .tz, X, sc, fn, hc, hn, V, x, h => by
    unfold ckGs at h
    rw [nil_of h]
    exact gs_nil
end
theorem blk_kind {scope sc : Scope} {own : List (Str × Nat)} (h : blkC N sc scope own = true) : scope.kind = .function := (blkOk_by h).kind
theorem e_meth {X : Cx} {W : WX} {o e : Expr} {eo : E} {m : Str} {es : List Expr} {ee : Es} {apos pos : Pos} (G : Gd X Γ cl g k W) (ho : PE X o (tE Γ cl X.K W eo)) (ha : PA X (e :: es) (tEs Γ cl X.K W ee)) (h : noSup o = true) (hs : (e :: es).all noStar = true) (hn : (e :: es).length < 30) (hl : (apos.endLine == pos.line) = true) :
    PE X (.Call (.Attribute o m apos) (e :: es) [] pos) (tE Γ cl X.K W (.meth eo m ee)) := by
  refine meth_core G ho ha (fun a f s Q hk hin run => ?_) (meth_eval h hs hn hl)
  rw [List.all_cons, Bool.and_eq_true] at hs
  exact PySem.W.callWith_K (first := [.ref a]) hin hk run (star_ok hs.1) (star_any hs.2)
/-- == of two of one class, by its own __eq__ -/
theorem e_eqi {X : Cx} {W : WX} {a b : Expr} {ea eb : E} {pos : Pos} (G : Gd X Γ cl g k W) (ha : PE X a (tE Γ cl X.K W ea)) (hb : PE X b (tE Γ cl X.K W eb)) (hm : behindInMarks .Eq b = false) : PE X (.Compare a [.Eq] [b] pos) (tE Γ cl X.K W (.eqi ea eb)) := by
  have hr : OpR X (compareOp .Eq) (fun v u H Q => ∃ (c : Ct) (F : Hp) (ρ : En) (σ : L2.St) (n : Str) (es es' : List (Str × D)) (Q0 : QE), Rl cl X.K c F ρ σ H ∧ Rep cl X.K F v (.ins n es) ∧ Rep cl X.K F u (.ins n es') ∧ dCall (Γ.m n "__eq__") [.sh (.ins n es), .sh (.ins n es')] ρ (fun r ρ' => ∃ t, r = .sh (.bl t) ∧ Q0 r ρ') nEx ∧
      ∀ r ρ' F' v' H', Q0 r ρ' → Same F F' → Rl cl X.K c F' ρ' σ H' → ResR cl X.K c F' ρ' σ H' v' r → Q v' H') := by
    intro pins s σ H v u wv wu Q I rv ru h
    obtain ⟨c, F, ρ, σ', n, es, es', Q0, R0, r1, r2, z, q⟩ := h
    obtain ⟨x, C, dx, fs, rfl, hc, hx, rx⟩ := vw_ins (H := H) (show Vw cl X.K F H v (.ins n es) from r1)
    obtain ⟨y, C', dy, gs, rfl, hc', hy, ry⟩ := vw_ins (H := H) (show Vw cl X.K F H u (.ins n es') from r2)
    cases rv
    cases ru
    obtain ⟨fn, ef, _⟩ := w1_of z
    obtain ⟨f, fd, ps, dvs, ds, me, hd, hbd, FN⟩ := G.mt n C "__eq__" fn hc ef
    have same : C' = C := G.un n C' C hc' hc
    subst same
    obtain ⟨mA, J, _⟩ := ins_get I.hok (R0.fh _ _ hx)
    obtain ⟨mB, J', _⟩ := ins_get I.hok (R0.fh _ _ hy)
    obtain ⟨od, J, _⟩ := J.look
    obtain ⟨od', J', _⟩ := J'.look
    obtain ⟨mm, hF⟩ := I.fr
    rw [ef] at z
    have y0 := call_core (W := fun _ _ _ _ => False) (Q := fun v' H' => (∃ t, v' = V.bl t) ∧ Q v' H') (vs := [.ref x, .ref y]) R0 (.cons (show Held cl X.K F σ' (.ref x) (.sh (.ins n es)) from r1) (.cons (show Held cl X.K F σ' (.ref y) (.sh (.ins n es')) from r2) .nil)) z (fun r ρ' F' v' H' w m R' rr => by
      obtain ⟨t, rfl, w⟩ := w
      refine ⟨?_, q _ _ F' v' H' w m R' rr⟩
      cases (show Rep cl X.K F' v' (.bl t) from rr)
      exact ⟨t, rfl⟩) fun _ _ _ _ _ _ w => w.elim
    have run := run_g (ks := []) (ws := []) (zs := []) (dvs := dvs) (vs := [.ref x, .ref y]) (us := [.ref x, .ref y]) FN G.low G.gd hbd hd (passAt (L2.takes0 (X := X)) σ) I (.cons rfl (.cons rfl .nil)) .nil rfl ⟨[.ref x, .ref y], by rw [List.append_nil], y0⟩
    show wpAny (model X.prog X.w) X.A (richCompare .Eq (.ref x) (.ref y)) _ _ s
    refine PySem.W.cmp_K (op := .Eq) (tb := .ref C') G.low.units0 hF I.ok.mod.kin J J'.type (by simp [PySem.W.notFirst]) me.at_ me.fn (thn run fun wv s' w => ?_)
    obtain ⟨v', H', I', rw', ⟨t, rfl⟩, w⟩ := w
    cases rw'
    exact ⟨.bl t, H', I', rfl, w⟩
  refine PE.weak (pe_cmpR hr ha hb hm) fun σ H Q ⟨c, F, ρ, Q0, X0, R0, h, q, hx⟩ => ?_
  refine two R0 h hx fun ra rb ρ2 F2 v u H2 z m R2 hl r2 => ?_
  obtain ⟨n, es, e1, z1⟩ := wN_of z
  obtain ⟨n', es', e2, en, z2⟩ := wN_of z1
  subst en
  exact ⟨c, F2, ρ2, σ, n, es, es', Q0, R2, hl.vw R2 e1, r2.vw R2 e2, z2, fun r ρ' F' v' H' w m' => q r ρ' F' v' H' w (m.trans m')⟩
end
end M
set_option linter.all false
set_option Elab.async false
set_option maxRecDepth 10000
/-! MiniQ: an expression that was looked at is read as its small syntax. -/
namespace M
open PySem PySem.Spec PyProof.Rows L2
section
variable {g : Bool} {N : List Str} {Γ : Tb} {cl : Str → Addr → Prop} {k : Nat}
theorem some_of {α : Type} {o : Option α} (h : o.isSome = true) : ∃ x, o = some x := by
  cases o with
  | none => cases h
  | some x => exact ⟨x, rfl⟩
/-- keywords that are all named -/
theorem kw_ok {sc : Scope} {fn : Str → Bool} {pos : Pos} {env : PySem.Env} : ∀ (e : Es) (ks : List Str) (kws : List Keyword), ckK g N Γ e ks sc fn kws = true → (backToKw pos (keywordEach kws env)).all (·.1.isSome) = true ∧ (backToKw pos (keywordEach kws env)).filterMap (·.1) = ks ∧ (backToKw pos (keywordEach kws env)).any (·.1.isNone) = false
  | .nil, ks, kws, h => by
    unfold ckK at h
    rw [Bool.and_eq_true] at h
    rw [nil_of h.1, nil_of h.2]
    exact ⟨rfl, rfl, rfl⟩
  | .cons a r, ks, kws, h => by
    unfold ckK at h
    split at h
    · simp only [Bool.and_eq_true, decide_eq_true_eq] at h
      rename_i k' ks' n e kp kws'
      obtain ⟨⟨rfl, _⟩, h2⟩ := h
      obtain ⟨a1, a2, a3⟩ := kw_ok r ks' kws' h2
      refine ⟨?_, ?_, ?_⟩
      · show (true && (backToKw pos (keywordEach kws' env)).all (·.1.isSome)) = true
        rw [a1] <;> rfl
      · show n :: (backToKw pos (keywordEach kws' env)).filterMap (·.1) = n :: ks'
        rw [a2]
      · show (false || (backToKw pos (keywordEach kws' env)).any (·.1.isNone)) = false
        rw [a3] <;> rfl
    · cases h
mutual
theorem sE : ∀ (e : E) {X : Cx} {W : WX} {sc : Scope} {fn : Str → Bool} (G : Gd X Γ cl g k W) (V : Nv X N sc fn) (x : Expr), ckE g N Γ e sc fn x = true → PE X x (tE Γ cl X.K W e)
  | .var i, X, W, sc, fn, G, V, x, h => by
    unfold ckE at h
    split at h
    · simp only [Bool.and_eq_true] at h
      exact e_var (at_ok V h.1.1) (vis_ok V h.1.2) (okn1 h.2) (okn2 h.2)
    · cases h
  | .int n, X, W, sc, fn, G, V, x, h => by
    unfold ckE at h
    split at h
    · rw [of_decide_eq_true h]
      exact e_int
    · cases h
  | .bl n, X, W, sc, fn, G, V, x, h => by
    unfold ckE at h
    split at h
    · rw [of_decide_eq_true h]
      exact e_bl
    · cases h
  | .non, X, W, sc, fn, G, V, x, h => by
    unfold ckE at h
    split at h
    · exact e_non
    · cases h
  | .str n, X, W, sc, fn, G, V, x, h => by
    unfold ckE at h
    split at h
    · rw [of_decide_eq_true h]
      exact e_str
    · cases h
  | .bin op a b, X, W, sc, fn, G, V, x, h => by
    unfold ckE at h
    split at h
    · simp only [Bool.and_eq_true, decide_eq_true_eq] at h
      obtain ⟨⟨rfl, h2⟩, h3⟩ := h
      obtain ⟨r, ho, hr⟩ := bin_rule (X := X) (cl := cl) op
      exact e_bin ho hr (sE a G V _ h2) (sE b G V _ h3)
    · cases h
  | .neg a, X, W, sc, fn, G, V, x, h => by
    unfold ckE at h
    split at h
    · exact e_neg (sE a G V _ h)
    · cases h
  | .cmp op a b, X, W, sc, fn, G, V, x, h => by
    unfold ckE at h
    split at h
    · simp only [Bool.and_eq_true, decide_eq_true_eq, Bool.not_eq_true'] at h
      obtain ⟨⟨⟨rfl, h1⟩, h2⟩, h3⟩ := h
      exact e_cmp G.units (sE a G V _ h2) (sE b G V _ h3) h1
    · cases h
  | .chn p q a b c, X, W, sc, fn, G, V, x, h => by
    unfold ckE at h
    split at h
    · simp only [Bool.and_eq_true, decide_eq_true_eq, Bool.not_eq_true'] at h
      obtain ⟨⟨⟨⟨⟨rfl, rfl⟩, h1⟩, h2⟩, h3⟩, h4⟩ := h
      exact e_chn G.units (sE a G V _ h2) (sE b G V _ h3) (sE c G V _ h4) h1
    · cases h
  | .not a, X, W, sc, fn, G, V, x, h => by
    unfold ckE at h
    split at h
    · exact e_not (sE a G V _ h)
    · cases h
  | .and as, X, W, sc, fn, G, V, x, h => by
    unfold ckE at h
    split at h
    · rename_i xs p
      cases xs with
      | nil =>
        cases as <;> (unfold ckV at h; cases h)
      | cons y ys => exact v_and (sV as G V (y :: ys) p h)
    · cases h
  | .or as, X, W, sc, fn, G, V, x, h => by
    unfold ckE at h
    split at h
    · rename_i xs p
      cases xs with
      | nil =>
        cases as <;> (unfold ckV at h; cases h)
      | cons y ys => exact v_or (sVo as G V (y :: ys) p h)
    · cases h
  | .ife c a b, X, W, sc, fn, G, V, x, h => by
    unfold ckE at h
    split at h
    · simp only [Bool.and_eq_true] at h
      exact e_ife (sT c G V _ h.1.1) (sE a G V _ h.1.2) (sE b G V _ h.2)
    · cases h
  | .tup as, X, W, sc, fn, G, V, x, h => by
    unfold ckE at h
    split at h
    · exact e_tup (sA as G V _ h)
    · cases h
  | .lst as, X, W, sc, fn, G, V, x, h => by
    unfold ckE at h
    split at h
    · exact e_lst (sA as G V _ h)
    · cases h
  | .ix a b, X, W, sc, fn, G, V, x, h => by
    unfold ckE at h
    split at h
    · simp only [Bool.and_eq_true] at h
      exact e_ix (sE a G V _ h.1.2) (sE b G V _ h.2) (ix_ok h.1.1)
    · cases h
  | .sl a lo hi, X, W, sc, fn, G, V, x, h => by
    unfold ckE at h
    split at h
    · simp only [Bool.and_eq_true] at h
      exact e_sl (sE a G V _ h.1.1) (sO lo G V _ h.1.2) (sO hi G V _ h.2)
    · cases h
  | .rev a, X, W, sc, fn, G, V, x, h => by
    unfold ckE at h
    split at h
    · exact e_rev (sE a G V _ h)
    · cases h
  | .call f as, X, W, sc, fn, G, V, x, h => by
    unfold ckE at h
    split at h
    · simp only [Bool.and_eq_true, decide_eq_true_eq] at h
      obtain ⟨⟨⟨⟨⟨⟨rfl, h1⟩, h2⟩, h3⟩, h4⟩, h5⟩, h6⟩ := h
      obtain ⟨fc, ef⟩ := some_of h3
      exact e_call G ef (glo_ok V h1) (sA as G V _ h6) (okn1 h2) (star_ok h4) (star_any h5)
    · cases h
  | .callk f as ks kas, X, W, sc, fn, G, V, x, h => by
    unfold ckE at h
    split at h
    · rename_i n q e es kws r
      simp only [Bool.and_eq_true, decide_eq_true_eq] at h
      obtain ⟨⟨⟨⟨⟨⟨⟨rfl, h1⟩, h2⟩, h3⟩, h4⟩, h5⟩, h6⟩, h7⟩ := h
      obtain ⟨fc, ef⟩ := some_of h3
      obtain ⟨k1, k2, k3⟩ := kw_ok (pos := r) (env := X.env) kas ks kws h7
      exact e_callk G ef (glo_ok V h1) (sA as G V _ h6) (sK kas ks G V kws h7) k1 k2 (okn1 h2) (star_ok h4) (by rw [k3, star_any (by rw [List.all_cons, h4, h5] <;> rfl)] <;> rfl)
    · cases h
  | .make f as, X, W, sc, fn, G, V, x, h => by
    unfold ckE at h
    split at h
    · simp only [Bool.and_eq_true, decide_eq_true_eq] at h
      obtain ⟨⟨⟨⟨⟨⟨rfl, h1⟩, h2⟩, h3⟩, h4⟩, h5⟩, h6⟩ := h
      obtain ⟨fc, ef⟩ := some_of h3
      exact e_make G ef (glo_ok V h1) (sA as G V _ h6) (okn1 h2) (star_ok h4) (star_any h5)
    · cases h
  | .bi f as, X, W, sc, fn, G, V, x, h => by
    unfold ckE at h
    split at h
    · simp only [Bool.and_eq_true, decide_eq_true_eq] at h
      obtain ⟨⟨⟨⟨⟨rfl, h1⟩, h2⟩, h3⟩, h4⟩, h5⟩ := h
      exact e_bi G h1 (glo_ok V h2) (sA as G V _ h5) (star_ok h3) (star_any h4)
    · cases h
  | .leni a, X, W, sc, fn, G, V, x, h => by
    unfold ckE at h
    split at h
    · simp only [Bool.and_eq_true, decide_eq_true_eq] at h
      obtain ⟨⟨⟨rfl, h1⟩, h2⟩, h3⟩ := h
      exact e_leni G (glo_ok V h1) (sE a G V _ h3) (star_ok h2)
    · cases h
  | .isi a c, X, W, sc, fn, G, V, x, h => by
    unfold ckE at h
    split at h
    · simp only [Bool.and_eq_true, decide_eq_true_eq] at h
      obtain ⟨⟨⟨⟨⟨⟨⟨rfl, h1⟩, rfl⟩, h3⟩, h4⟩, h5⟩, h6⟩, h7⟩ := h
      exact e_isi G (glo_ok V h1) (glo_ok V h3) (okn1 h4) (sE a G V _ h7) (star_ok h6) h5
    · cases h
  | .meth o m as, X, W, sc, fn, G, V, x, h => by
    unfold ckE at h
    split at h
    · rename_i e n ap es p
      simp only [Bool.and_eq_true, decide_eq_true_eq] at h
      obtain ⟨⟨⟨⟨⟨⟨rfl, h1⟩, h2⟩, h3⟩, h4⟩, h5⟩, h6⟩ := h
      cases es with
      | nil =>
        cases as with
        | nil => exact meth_core0 G (sE o G V _ h5) (meth_eval h1 h2 h3 h4)
        | cons a r =>
          unfold ckA at h6
          cases h6
      | cons y ys => exact e_meth G (sE o G V _ h5) (sA as G V _ h6) h1 h2 h3 h4
    · cases h
  | .attr o f, X, W, sc, fn, G, V, x, h => by
    unfold ckE at h
    split at h
    · simp only [Bool.and_eq_true, decide_eq_true_eq] at h
      obtain ⟨⟨rfl, h1⟩, h2⟩ := h
      exact e_attr G (sE o G V _ h2) (base_ok h1)
    · cases h
  | .prop o f, X, W, sc, fn, G, V, x, h => by
    unfold ckE at h
    split at h
    · simp only [Bool.and_eq_true, decide_eq_true_eq] at h
      obtain ⟨⟨rfl, h1⟩, h2⟩ := h
      exact e_prop G (sE o G V _ h2) (base_ok h1)
    · cases h
  | .index o a, X, W, sc, fn, G, V, x, h => by
    unfold ckE at h
    split at h
    · simp only [Bool.and_eq_true, decide_eq_true_eq] at h
      obtain ⟨⟨⟨⟨⟨rfl, h1⟩, h2⟩, h3⟩, h4⟩, h5⟩ := h
      exact e_index (sE o G V _ h4) (sE a G V _ h5) (base_ok h1) h3 (star_ok h2) (few_ok h2)
    · cases h
  | .eqi a b, X, W, sc, fn, G, V, x, h => by
    unfold ckE at h
    split at h
    · simp only [Bool.and_eq_true, Bool.not_eq_true'] at h
      exact e_eqi G (sE a G V _ h.1.2) (sE b G V _ h.2) h.1.1
    · cases h
  | .lc elt tg it ifs own, X, W, sc, fn, G, V, x, h => by
    unfold ckE at h
    split at h
    · simp only [Bool.and_eq_true, decide_eq_true_eq, List.all_eq_true] at h
      obtain ⟨⟨⟨⟨⟨⟨⟨rfl, h1⟩, h2⟩, h3⟩, h4⟩, h5⟩, h6⟩, h7⟩ := h
      have kd := blk_kind h1
      refine e_lc G h2 (sI it G V _ _ h4) (by rw [V.eN, V.eS]; exact blkOk_by h1) (fun s H C cc fp => sG (X := X.blk s H _ (compEnvC _ cc C X.env) fp) tg G.calm G.nd (V.blk kd) _ h5) (fun s H C cc fp => sF ifs G.blk (V.blk kd) _ h6) (fun s H C cc fp => sE elt G.blk (V.blk kd) _ h7) (fold_ok h3)
    · cases h
  | .lrg as, X, W, sc, fn, G, V, x, h => by
    unfold ckE at h
    split at h
    · simp only [Bool.and_eq_true, decide_eq_true_eq] at h
      obtain ⟨⟨⟨⟨⟨rfl, h1⟩, rfl⟩, h2⟩, h3⟩, h4⟩ := h
      cases as with
      | nil => cases h4
      | cons e r =>
        cases r with
        | nil => exact e_lrg1 G (glo_ok V h1) (glo_ok V h2) (sE e G V _ h4) (star_ok h3)
        | cons _ _ => cases h4
    · simp only [Bool.and_eq_true, decide_eq_true_eq] at h
      obtain ⟨⟨⟨⟨⟨⟨rfl, h1⟩, rfl⟩, h2⟩, h3⟩, h3'⟩, h4⟩ := h
      cases as with
      | nil => cases h4
      | cons e r =>
        cases r with
        | nil => cases h4
        | cons e' r' =>
          cases r' with
          | nil =>
            have h4 := (Bool.and_eq_true _ _).mp h4
            exact e_lrg2 G (glo_ok V h1) (glo_ok V h2) (sE e G V _ h4.1) (sE e' G V _ h4.2) (star_ok h3) (star_ok h3') (star_any (by rw [List.all_cons, h3'] <;> rfl))
          | cons _ _ => cases h4
    · cases h
  | .leno i, X, W, sc, fn, G, V, x, h => by
    unfold ckE at h
    split at h
    · simp only [Bool.and_eq_true, decide_eq_true_eq] at h
      obtain ⟨⟨⟨⟨rfl, h1⟩, h2⟩, h3⟩, h4⟩ := h
      exact e_leno G (glo_ok V h1) (at_ok V h2) (vis_ok V h3) (okn1 h4) (okn2 h4)
    · cases h
  | .lend i a, X, W, sc, fn, G, V, x, h => by
    unfold ckE at h
    exact e_lend (sE a G V _ h)
  | .dc0, X, W, sc, fn, G, V, x, h => by
    unfold ckE at h
    split at h
    · exact e_dc0
    · cases h
  | .dc1 i, X, W, sc, fn, G, V, x, h => by
    unfold ckE at h
    split at h
    · simp only [Bool.and_eq_true] at h
      obtain ⟨⟨h1, h2⟩, h3⟩ := h
      exact e_dc1 (at_ok V h1) (vis_ok V h2) (okn1 h3) (okn2 h3)
    · cases h
  | .dg i a, X, W, sc, fn, G, V, x, h => by
    unfold ckE at h
    split at h
    · simp only [Bool.and_eq_true] at h
      obtain ⟨⟨⟨⟨h1, h2⟩, h3⟩, h4⟩, h5⟩ := h
      exact e_dg G (at_ok V h1) (vis_ok V h2) (okn1 h3) (okn2 h3) (sE a G V _ h5) (nosl_ok h4)
    · cases h
  | .din neg a i, X, W, sc, fn, G, V, x, h => by
    unfold ckE at h
    split at h
    · simp only [Bool.and_eq_true, decide_eq_true_eq] at h
      obtain ⟨⟨⟨⟨rfl, h1⟩, h2⟩, h3⟩, h4⟩ := h
      exact e_din G (at_ok V h1) (vis_ok V h2) (okn1 h3) (okn2 h3) (sE a G V _ h4)
    · cases h
  | .sset a, X, W, sc, fn, G, V, x, h => by
    unfold ckE at h
    split at h
    · simp only [Bool.and_eq_true, decide_eq_true_eq] at h
      obtain ⟨⟨⟨⟨⟨rfl, h1⟩, rfl⟩, h2⟩, h3⟩, h4⟩ := h
      exact e_sset G (glo_ok V h1) (glo_ok V h2) (sE a G V _ h4) (star_ok h3)
    · cases h
  | .lset a, X, W, sc, fn, G, V, x, h => by
    unfold ckE at h
    split at h
    · simp only [Bool.and_eq_true, decide_eq_true_eq] at h
      obtain ⟨⟨⟨⟨⟨rfl, h1⟩, rfl⟩, h2⟩, h3⟩, h4⟩ := h
      exact e_lset G (glo_ok V h1) (glo_ok V h2) (sE a G V _ h4) (star_ok h3)
    · cases h
  | .lsc elt tg it own, X, W, sc, fn, G, V, x, h => by
    unfold ckE at h
    split at h
    · simp only [Bool.and_eq_true, decide_eq_true_eq, List.all_eq_true] at h
      obtain ⟨⟨⟨⟨⟨⟨⟨⟨rfl, h0⟩, rfl⟩, h1⟩, h2⟩, h3⟩, h4⟩, h5⟩, h7⟩ := h
      have kd := blk_kind h1
      refine e_lsc G (glo_ok V h0) h2 (sI it G V _ _ h4) (by rw [V.eN, V.eS]; exact blkOk_by h1) (fun s H C cc fp => sG (X := X.blk s H _ (compEnvC _ cc C X.env) fp) tg G.calm G.nd (V.blk kd) _ h5) (fun s H C cc fp => sE elt G.blk (V.blk kd) _ h7) (fold_ok h3)
    · cases h
  | .isb a c, X, W, sc, fn, G, V, x, h => by
    unfold ckE at h
    split at h
    · simp only [Bool.and_eq_true, Bool.or_eq_true, decide_eq_true_eq] at h
      obtain ⟨⟨⟨⟨⟨⟨rfl, h1⟩, rfl⟩, h3⟩, h4⟩, h5⟩, h6⟩ := h
      exact e_isb G (glo_ok V h1) (glo_ok V h3) (sE a G V _ h6) (star_ok h4) h5
    · cases h
theorem sK : ∀ (e : Es) (ks : List Str) {X : Cx} {W : WX} {sc : Scope} {fn : Str → Bool} (G : Gd X Γ cl g k W) (V : Nv X N sc fn) (x : List Keyword), ckK g N Γ e ks sc fn x = true → PK X x (tEsL Γ cl X.K W e ks.length)
  | .nil, ks, X, W, sc, fn, G, V, x, h => by
    unfold ckK at h
    rw [Bool.and_eq_true] at h
    rw [nil_of h.1, nil_of h.2]
    exact k_nil
  | .cons a r, ks, X, W, sc, fn, G, V, x, h => by
    unfold ckK at h
    split at h
    · simp only [Bool.and_eq_true] at h
      exact k_cons (sE a G V _ h.1.2) (sK r _ G V _ h.2)
    · cases h
theorem sA : ∀ (e : Es) {X : Cx} {W : WX} {sc : Scope} {fn : Str → Bool} (G : Gd X Γ cl g k W) (V : Nv X N sc fn) (x : List Expr), ckA g N Γ e sc fn x = true → PA X x (tEs Γ cl X.K W e)
  | .nil, X, W, sc, fn, G, V, x, h => by
    unfold ckA at h
    rw [nil_of h]
    exact a_nil
  | .cons a r, X, W, sc, fn, G, V, x, h => by
    unfold ckA at h
    split at h
    · simp only [Bool.and_eq_true] at h
      exact a_cons (sE a G V _ h.1.1) (sA r G V _ h.2) (star_ok h.1.2)
    · cases h
theorem sV : ∀ (e : Es) {X : Cx} {W : WX} {sc : Scope} {fn : Str → Bool} (G : Gd X Γ cl g k W) (V : Nv X N sc fn) (x : List Expr) (p : Pos), ckV g N Γ e sc fn x = true → PE X (.BoolOp .And x p) (tAV Γ cl X.K W e)
  | .nil, X, W, sc, fn, G, V, x, p, h => by
    unfold ckV at h
    cases h
  | .cons a r, X, W, sc, fn, G, V, x, p, h => by
    unfold ckV at h
    split at h
    · rw [Bool.and_eq_true] at h
      cases r with
      | nil =>
        rw [nil_of h.2]
        exact v_and1 (sE a G V _ h.1)
      | cons b r' =>
        rename_i y ys
        cases ys with
        | nil =>
          have h2 := h.2
          unfold ckV at h2
          cases h2
        | cons z zs => exact v_and2 (sE a G V _ h.1) (sV (.cons b r') G V _ p h.2)
    · cases h
theorem sVo : ∀ (e : Es) {X : Cx} {W : WX} {sc : Scope} {fn : Str → Bool} (G : Gd X Γ cl g k W) (V : Nv X N sc fn) (x : List Expr) (p : Pos), ckV g N Γ e sc fn x = true → PE X (.BoolOp .Or x p) (tOV Γ cl X.K W e)
  | .nil, X, W, sc, fn, G, V, x, p, h => by
    unfold ckV at h
    cases h
  | .cons a r, X, W, sc, fn, G, V, x, p, h => by
    unfold ckV at h
    split at h
    · rw [Bool.and_eq_true] at h
      cases r with
      | nil =>
        rw [nil_of h.2]
        exact v_or1 (sE a G V _ h.1)
      | cons b r' =>
        rename_i y ys
        cases ys with
        | nil =>
          have h2 := h.2
          unfold ckV at h2
          cases h2
        | cons z zs => exact v_or2 (sE a G V _ h.1) (sVo (.cons b r') G V _ p h.2)
    · cases h
theorem sO : ∀ (e : Es) {X : Cx} {W : WX} {sc : Scope} {fn : Str → Bool} (G : Gd X Γ cl g k W) (V : Nv X N sc fn) (x : Option Expr), ckO g N Γ e sc fn x = true → PO X x (tO' Γ cl X.K W e)
  | .nil, X, W, sc, fn, G, V, x, h => by
    unfold ckO at h
    cases x with
    | none => exact o_none
    | some _ => cases h
  | .cons a r, X, W, sc, fn, G, V, x, h => by
    unfold ckO at h
    split at h
    · exact o_some (sE a G V _ h)
    · cases h
theorem sT : ∀ (e : B) {X : Cx} {W : WX} {sc : Scope} {fn : Str → Bool} (G : Gd X Γ cl g k W) (V : Nv X N sc fn) (x : Expr), ckT g N Γ e sc fn x = true → PT X x (tB' Γ cl X.K W e)
  | .ex e, X, W, sc, fn, G, V, x, h => by
    unfold ckT at h
    rw [Bool.and_eq_true, Bool.or_eq_true] at h
    obtain ⟨h1, h2⟩ := h
    have p := sE e G V _ h2
    rcases h1 with h1 | h1
    · exact b_ex p (true_ok h1)
    · cases e with
      | din neg a i =>
        unfold ckE at h2
        split at h2
        · simp only [Bool.and_eq_true, decide_eq_true_eq] at h2
          obtain ⟨⟨⟨⟨rfl, h1⟩, h2⟩, h3⟩, h4⟩ := h2
          exact b_din G (at_ok V h1) (vis_ok V h2) (okn1 h3) (okn2 h3) (sE a G V _ h4)
        · cases h2
      | _ => cases h1
  | .cmp op a b, X, W, sc, fn, G, V, x, h => by
    unfold ckT at h
    split at h
    · simp only [Bool.and_eq_true, decide_eq_true_eq, Bool.not_eq_true'] at h
      obtain ⟨⟨⟨rfl, h1⟩, h2⟩, h3⟩ := h
      exact b_cmp G.units (sE a G V _ h2) (sE b G V _ h3) h1
    · cases h
  | .chn p q a b c, X, W, sc, fn, G, V, x, h => by
    unfold ckT at h
    split at h
    · simp only [Bool.and_eq_true, decide_eq_true_eq, Bool.not_eq_true'] at h
      obtain ⟨⟨⟨⟨⟨rfl, rfl⟩, h1⟩, h2⟩, h3⟩, h4⟩ := h
      exact b_chn G.units (sE a G V _ h2) (sE b G V _ h3) (sE c G V _ h4) h1
    · cases h
  | .not a, X, W, sc, fn, G, V, x, h => by
    unfold ckT at h
    split at h
    · exact b_not (sT a G V _ h)
    · cases h
  | .and as, X, W, sc, fn, G, V, x, h => by
    unfold ckT at h
    split at h
    · rename_i xs p
      cases xs with
      | nil =>
        cases as <;> (unfold ckB at h; cases h)
      | cons y ys => exact b_and (sB as G V (y :: ys) p h)
    · cases h
  | .or as, X, W, sc, fn, G, V, x, h => by
    unfold ckT at h
    split at h
    · rename_i xs p
      cases xs with
      | nil =>
        cases as <;> (unfold ckB at h; cases h)
      | cons y ys => exact b_or (sBo as G V (y :: ys) p h)
    · cases h
theorem sB : ∀ (e : Bs) {X : Cx} {W : WX} {sc : Scope} {fn : Str → Bool} (G : Gd X Γ cl g k W) (V : Nv X N sc fn) (x : List Expr) (p : Pos), ckB g N Γ e sc fn x = true → PW X (.BoolOp .And x p) (tAT Γ cl X.K W e)
  | .nil, X, W, sc, fn, G, V, x, p, h => by
    unfold ckB at h
    cases h
  | .cons a r, X, W, sc, fn, G, V, x, p, h => by
    unfold ckB at h
    split at h
    · rw [Bool.and_eq_true] at h
      cases r with
      | nil =>
        rw [nil_of h.2]
        exact b_and1 (sT a G V _ h.1)
      | cons b r' =>
        rename_i y ys
        cases ys with
        | nil =>
          have h2 := h.2
          unfold ckB at h2
          cases h2
        | cons z zs => exact b_and2 (sT a G V _ h.1) (sB (.cons b r') G V _ p h.2)
    · cases h
theorem sBo : ∀ (e : Bs) {X : Cx} {W : WX} {sc : Scope} {fn : Str → Bool} (G : Gd X Γ cl g k W) (V : Nv X N sc fn) (x : List Expr) (p : Pos), ckB g N Γ e sc fn x = true → PW X (.BoolOp .Or x p) (tOT Γ cl X.K W e)
  | .nil, X, W, sc, fn, G, V, x, p, h => by
    unfold ckB at h
    cases h
  | .cons a r, X, W, sc, fn, G, V, x, p, h => by
    unfold ckB at h
    split at h
    · rw [Bool.and_eq_true] at h
      cases r with
      | nil =>
        rw [nil_of h.2]
        exact b_or1 (sT a G V _ h.1)
      | cons b r' =>
        rename_i y ys
        cases ys with
        | nil =>
          have h2 := h.2
          unfold ckB at h2
          cases h2
        | cons z zs => exact b_or2 (sT a G V _ h.1) (sBo (.cons b r') G V _ p h.2)
    · cases h
theorem sF : ∀ (e : Bs) {X : Cx} {W : WX} {sc : Scope} {fn : Str → Bool} (G : Gd X Γ cl g k W) (V : Nv X N sc fn) (x : List Expr), ckF g N Γ e sc fn x = true → PTs X x (tF' Γ cl X.K W e)
  | .nil, X, W, sc, fn, G, V, x, h => by
    unfold ckF at h
    rw [nil_of h]
    exact f_nil
  | .cons a r, X, W, sc, fn, G, V, x, h => by
    unfold ckF at h
    split at h
    · exact f_one (sT a G V _ h)
    · cases h
theorem sI : ∀ (e : I) {X : Cx} {W : WX} {sc : Scope} {fn : Str → Bool} (G : Gd X Γ cl g k W) (V : Nv X N sc fn) (t x : Expr), ckI g N Γ e sc fn t x = true → PI X t x (tI' Γ cl X.K W e)
  | .ex e, X, W, sc, fn, G, V, t, x, h => by
    unfold ckI at h
    exact i_ex G (sE e G V _ h)
  | .rng as, X, W, sc, fn, G, V, t, x, h => by
    unfold ckI at h
    split at h
    · simp only [Bool.and_eq_true, decide_eq_true_eq] at h
      obtain ⟨⟨⟨rfl, h1⟩, h2⟩, h3⟩ := h
      cases as with
      | nil => cases h3
      | cons e r =>
        cases r with
        | nil => exact i_rng1 G (glo_ok V h1) (sE e G V _ h3) (star_ok h2)
        | cons _ _ => cases h3
    · simp only [Bool.and_eq_true, decide_eq_true_eq] at h
      obtain ⟨⟨⟨⟨rfl, h1⟩, h2⟩, h2'⟩, h3⟩ := h
      cases as with
      | nil => cases h3
      | cons e r =>
        cases r with
        | nil => cases h3
        | cons e' r' =>
          cases r' with
          | nil =>
            have h3 := (Bool.and_eq_true _ _).mp h3
            exact i_rng2 G (glo_ok V h1) (sE e G V _ h3.1) (sE e' G V _ h3.2) (by rw [star_ok h2, star_ok h2'] <;> rfl) (star_ok h2')
          | cons _ _ => cases h3
    · cases h
  | .enu e, X, W, sc, fn, G, V, t, x, h => by
    unfold ckI at h
    rw [Bool.and_eq_true] at h
    obtain ⟨ht, h⟩ := h
    cases t with
    | Tuple es kk tp =>
      split at h
      · simp only [Bool.and_eq_true, decide_eq_true_eq] at h
        obtain ⟨⟨⟨rfl, h1⟩, h2⟩, h3⟩ := h
        exact i_enu G (glo_ok V h1) (sE e G V _ h3) (star_ok h2)
      · cases h
    | _ => cases ht
  | .zip e e', X, W, sc, fn, G, V, t, x, h => by
    unfold ckI at h
    rw [Bool.and_eq_true] at h
    obtain ⟨ht, h⟩ := h
    cases t with
    | Tuple es kk tp =>
      split at h
      · simp only [Bool.and_eq_true, decide_eq_true_eq] at h
        obtain ⟨⟨⟨⟨⟨rfl, h1⟩, h2⟩, h2'⟩, h3⟩, h4⟩ := h
        exact i_zip G (glo_ok V h1) (sE e G V _ h3) (sE e' G V _ h4) (star_ok h2) (star_ok h2') (star_any (by rw [List.all_cons, h2'] <;> rfl))
      · cases h
    | _ => cases ht
end
end
end M
set_option linter.all false
set_option Elab.async false
set_option maxRecDepth 10000
/-! MiniQx: except suites that were looked at. -/
namespace M
open PySem PySem.Spec PyProof.Rows L2
section
variable {g : Bool} {N : List Str} {Γ : Tb} {cl : Str → Addr → Prop} {k i : Nat} {n : Str} {cls : Value} {d : Option Addr} {oe : Obj} {pn : List (Addr × Obj)} {a : Addr}
/-- the name that an except suite holds the exception by -/
structure SuN (X : Cx) (i : Nat) (n : Str) : Prop where
  at_ : X.N[i]? = some n
  vi : Vis X.env.scope n
  n1 : (n == ("__debug__" : Str)) = false
  n2 : (n == ("__classdict__" : Str)) = false
theorem sHB : ∀ (h : HB) {X : Cx} {W : WX} {sc : Scope} {fn : Str → Bool} (G : Gd X Γ cl g k W) (V : Nv X N sc fn) (S : SuN X i n) (hz : Zc cls d oe) (hf : ∃ vs, oe.data = .fields vs) (x : Expr), ckHB Γ sc n h x = true → PT (X.suite a ((a, oe) :: pn)) x (tHB Γ cl X.K i a cls d h)
  | .is c, X, W, sc, fn, G, V, S, hz, hf, x, h => by
    unfold ckHB at h
    split at h
    · simp only [Bool.and_eq_true, decide_eq_true_eq] at h
      obtain ⟨⟨⟨⟨⟨⟨rfl, h1⟩, rfl⟩, rfl⟩, h2⟩, h3⟩, h4⟩ := h
      exact x_is G hz hf S.at_ S.vi S.n1 S.n2 (glo_ok V h1) (glo_ok V h2) (okn1 h3) h4
    · cases h
  | .not b, X, W, sc, fn, G, V, S, hz, hf, x, h => by
    unfold ckHB at h
    split at h
    · exact x_not (sHB b G V S hz hf _ h)
    · cases h
  | .and b b', X, W, sc, fn, G, V, S, hz, hf, x, h => by
    unfold ckHB at h
    split at h
    · rw [Bool.and_eq_true] at h
      exact x_and (sHB b G V S hz hf _ h.1) (sHB b' G V S hz hf _ h.2)
    · cases h
mutual
theorem sHX : ∀ (h : HX) {X : Cx} {W : WX} {sc : Scope} {fn : Str → Bool} (G : Gd X Γ cl g k W) (V : Nv X N sc fn) (S : SuN X i n) (hz : Zc cls d oe) (hf : ∃ vs, oe.data = .fields vs) (x : Expr), ckHX Γ sc n h x = true → PE (X.suite a ((a, oe) :: pn)) x (tHX Γ cl X.K i a cls d h)
  | .int m, X, W, sc, fn, G, V, S, hz, hf, x, h => by
    unfold ckHX at h
    split at h
    · rw [of_decide_eq_true h]
      exact x_con pe_int (fun _ => rfl) fun F => .int m
    · cases h
  | .str m, X, W, sc, fn, G, V, S, hz, hf, x, h => by
    unfold ckHX at h
    split at h
    · rw [of_decide_eq_true h]
      exact x_con pe_str (fun _ => rfl) fun F => .str m
    · cases h
  | .non, X, W, sc, fn, G, V, S, hz, hf, x, h => by
    unfold ckHX at h
    split at h
    · exact x_con pe_non (fun _ => rfl) fun F => .non
    · cases h
  | .bl m, X, W, sc, fn, G, V, S, hz, hf, x, h => by
    unfold ckHX at h
    split at h
    · rw [of_decide_eq_true h]
      exact x_con pe_bl (fun _ => rfl) fun F => .bl m
    · cases h
  | .att f, X, W, sc, fn, G, V, S, hz, hf, x, h => by
    unfold ckHX at h
    split at h
    · simp only [Bool.and_eq_true, decide_eq_true_eq] at h
      obtain ⟨rfl, rfl⟩ := h
      exact x_att G hz hf S.at_ S.vi S.n1 S.n2
    · cases h
  | .tup as, X, W, sc, fn, G, V, S, hz, hf, x, h => by
    unfold ckHX at h
    split at h
    · exact x_tup (sHXs as G V S hz hf _ h)
    · cases h
  | .ife c b b', X, W, sc, fn, G, V, S, hz, hf, x, h => by
    unfold ckHX at h
    split at h
    · simp only [Bool.and_eq_true] at h
      exact x_ife (sHB c G V S hz hf _ h.1.1) (sHX b G V S hz hf _ h.1.2) (sHX b' G V S hz hf _ h.2)
    · cases h
theorem sHXs : ∀ (h : HXs) {X : Cx} {W : WX} {sc : Scope} {fn : Str → Bool} (G : Gd X Γ cl g k W) (V : Nv X N sc fn) (S : SuN X i n) (hz : Zc cls d oe) (hf : ∃ vs, oe.data = .fields vs) (x : List Expr), ckHXs Γ sc n h x = true → PA (X.suite a ((a, oe) :: pn)) x (tHXs Γ cl X.K i a cls d h)
  | .nil, X, W, sc, fn, G, V, S, hz, hf, x, h => by
    unfold ckHXs at h
    rw [nil_of h]
    exact x_nil
  | .cons b r, X, W, sc, fn, G, V, S, hz, hf, x, h => by
    unfold ckHXs at h
    split at h
    · simp only [Bool.and_eq_true] at h
      exact x_cons (sHX b G V S hz hf _ h.1.1) (sHXs r G V S hz hf _ h.2) (star_ok h.1.2)
    · cases h
end
theorem sHS : ∀ (h : HS) {X : Cx} {W : WX} {sc : Scope} {fn : Str → Bool} (G : Gd X Γ cl g k W) (V : Nv X N sc fn) (S : SuN X i n) (hz : Zc cls d oe) (hf : ∃ vs, oe.data = .fields vs) (x : List Stmt), ckHS Γ sc n h x = true → PSs (X.suite a ((a, oe) :: pn)) x (tHS Γ cl X.K i a cls d h)
  | .ret b, X, W, sc, fn, G, V, S, hz, hf, x, h => by
    unfold ckHS at h
    split at h
    · exact x_ret (sHX b G V S hz hf _ h)
    · cases h
  | .iff c b r, X, W, sc, fn, G, V, S, hz, hf, x, h => by
    unfold ckHS at h
    split at h
    · simp only [Bool.and_eq_true] at h
      exact x_if (sHB c G V S hz hf _ h.1.1) (sHX b G V S hz hf _ h.1.2) (sHS r G V S hz hf _ h.2)
    · cases h
/-- in a try's body -/
theorem Gd.tr {X : Cx} {W W' : WX} {pn : List (Addr × Obj)} {xe : Value → Shared → Prop} (G : Gd X Γ cl g k W) (tk : Takes (X.tr pn xe) W') : Gd (X.tr pn xe) Γ cl g k W' :=
  ⟨G.nd, G.calm, tk, G.gd, G.rm, G.bn, G.fn, G.fk, G.cls, G.fld, G.mt, G.pr, G.mkr, G.iti, G.itl, G.isk, G.isn, G.un, G.ex, G.xi, G.xf⟩
end
end M
set_option linter.all false
set_option Elab.async false
set_option maxRecDepth 10000
/-! MiniR: statements that were looked at. -/
namespace M
open PySem PySem.Spec PyProof.Rows L2
section
variable {g : Bool} {N : List Str} {Γ : Tb} {cl : Str → Addr → Prop} {k : Nat}
theorem sto_loc {X : Cx} {sc : Scope} {fn : Str → Bool} {x : Str} (V : Nv X N sc fn) (h : sto sc (fun _ => false) x = true) : X.env.scope.names.lookup x = some .local := by
  rw [V.eS]
  unfold sto at h
  split at h
  · assumption
  · cases h
  · cases h
/-- a name bound to a comprehension -/
theorem s_lc {X : Cx} {W : WX} {sc : Scope} {fn : Str → Bool} {i : Nat} {y : Str} {q pos r : Pos} {e : E} {el : Expr} {gs : List Comprehension} {scope : Scope} (G : Gd X Γ cl g k W) (V : Nv X N sc fn) (hi : X.N[i]? = some y) (hs : sto sc fn y = true) (h : ckE g N Γ e sc fn (.ListComp el gs scope r) = true) (hnl : notLend e = true) :
    PS X (.Assign [.Name y q] (.ListComp el gs scope r) pos) (tS Γ cl X.K W (.asg (.nm i) e)) := by
  have eb : X.env.blockKind = .function := by
    unfold Env.blockKind
    rw [V.eS, V.eK] <;> rfl
  cases hb : (X.env.kindOf y == some .local && q.line == r.line && !(scope.names.any fun (n, k) => n == y && (k == .local || k == .cell))) with
  | false =>
    refine s_set G.nd hi (sto_ok V hs) (sE e G V _ h) ?_
    unfold swapsWith
    show pure (X.env.blockKind == .function && X.env.kindOf y == some .local && q.line == r.line && !(scope.names.any fun (n, k) => n == y && (k == .local || k == .cell))) = pure false
    rw [eb]
    have : ((ScopeKind.function == ScopeKind.function) && X.env.kindOf y == some .local && q.line == r.line && !(scope.names.any fun (n, k) => n == y && (k == .local || k == .cell))) = (X.env.kindOf y == some .local && q.line == r.line && !(scope.names.any fun (n, k) => n == y && (k == .local || k == .cell))) := by
      rw [show (ScopeKind.function == ScopeKind.function) = true from rfl, Bool.true_and]
    rw [this, hb]
  | true =>
    have h0 := h
    simp only [Bool.and_eq_true, beq_iff_eq, Bool.not_eq_true'] at hb
    obtain ⟨⟨b1, b2⟩, b3⟩ := hb
    cases e with
    | lc elt tg it ifs own =>
      unfold ckE at h
      split at h
      · rename_i heq
        cases heq
        simp only [Bool.and_eq_true, decide_eq_true_eq, List.all_eq_true] at h
        obtain ⟨⟨⟨⟨⟨⟨⟨rfl, h1⟩, h2⟩, h3⟩, h4⟩, h5⟩, h6⟩, h7⟩ := h
        have kd := blk_kind h1
        have kf : X.env.scope.kind = .function := by rw [V.eS, V.eK]
        refine s_setLc G hi b1 (sw_true kf b1 (beq_iff_eq.mpr b2) b3) h2 (sI it G V _ _ h4) (by rw [V.eN, V.eS]; exact blkOk_by h1) (fun s H C cc fp => sG (X := X.blk s H _ (compEnvC _ cc C X.env) fp) tg G.calm G.nd (V.blk kd) _ h5) (fun s H C cc fp => sF ifs G.blk (V.blk kd) _ h6) (fun s H C cc fp => sE elt G.blk (V.blk kd) _ h7) (fold_ok h3)
      · cases h
    | lend j a => cases hnl
    | _ => unfold ckE at h; cases h
mutual
theorem sS : ∀ (st : S) {X : Cx} {W : WX} {sc : Scope} {fn : Str → Bool} (G : Gd X Γ cl g k W) (V : Nv X N sc fn) (hst : X.stack = X.env :: X.outer) (hfr : X.env.frame = some X.env.locals) (hp : PassesOwn (model X.prog X.w) X.A X.env X.xe) (x : Stmt), ckS g N Γ st sc fn x = true → PS X x (tS Γ cl X.K W st)
  | .asg tg e, X, W, sc, fn, G, V, hst, hfr, hp, x, h => by
    unfold ckS at h
    split at h
    · cases tg with
      | nm i =>
        dsimp only at h
        split at h
        · simp only [Bool.and_eq_true, Bool.or_eq_true] at h
          obtain ⟨⟨⟨h1, h2⟩, h3⟩, h4⟩ := h
          rename_i v p t y q
          by_cases hc : notComp v = true
          · exact s_set G.nd (at_ok V h1) (sto_ok V h2) (sE e G V _ h3) (swap_ok hc)
          · have h4 := h4.resolve_left hc
            cases v with
            | ListComp el gs scope r =>
              exact s_lc G V (at_ok V h1) h2 h3 h4.2
            | _ =>
              cases h4.1
        · cases h
      | tp a r =>
        dsimp only at h
        simp only [Bool.and_eq_true] at h
        obtain ⟨⟨⟨h1, h2⟩, h3⟩, h4⟩ := h
        rename_i t v p
        have hn : notName t = true := by
          cases t with
          | Name y q =>
            unfold ckG at h1
            cases h1
          | _ => rfl
        exact s_asgT (sE e G V _ h4) (sG (.tp a r) G.calm G.nd V _ h1) (sole_ok hn) (stores_ok h2) (asg_ok h3)
      | tz => cases h
    · cases h
  | .par i j a b, X, W, sc, fn, G, V, hst, hfr, hp, x, h => by
    unfold ckS at h
    cases h
  | .set o i e, X, W, sc, fn, G, V, hst, hfr, hp, x, h => by
    unfold ckS at h
    split at h
    · simp only [Bool.and_eq_true] at h
      obtain ⟨⟨⟨h1, h2⟩, h3⟩, h4⟩ := h
      exact s_set_ix (sE o G V _ h2) (sE i G V _ h3) (sE e G V _ h4) (set_ok h1) (sole_ok rfl) stores_ok2 rfl
    · cases h
  | .aug i op e, X, W, sc, fn, G, V, hst, hfr, hp, x, h => by
    unfold ckS at h
    split at h
    · simp only [Bool.and_eq_true, decide_eq_true_eq] at h
      obtain ⟨⟨⟨h1, h2⟩, rfl⟩, h4⟩ := h
      exact s_aug G.nd (at_ok V h1) (sto_ok V h2) (sE e G V _ h4)
    · cases h
  | .augs o i op e, X, W, sc, fn, G, V, hst, hfr, hp, x, h => by
    unfold ckS at h
    split at h
    · simp only [Bool.and_eq_true, decide_eq_true_eq] at h
      obtain ⟨⟨⟨⟨h1, rfl⟩, h2⟩, h3⟩, h4⟩ := h
      exact s_augs (sE o G V _ h2) (sE i G V _ h3) (sE e G V _ h4) (augs_ok h1)
    · cases h
  | .app o e, X, W, sc, fn, G, V, hst, hfr, hp, x, h => by
    unfold ckS at h
    split at h
    · simp only [Bool.and_eq_true, decide_eq_true_eq] at h
      obtain ⟨⟨⟨⟨⟨rfl, h1⟩, h2⟩, h3⟩, h4⟩, h5⟩ := h
      exact s_app (sE o G V _ h4) (sE e G V _ h5) (base_ok h1) h3 (star_ok h2) (few_ok h2)
    · cases h
  | .ext o e, X, W, sc, fn, G, V, hst, hfr, hp, x, h => by
    unfold ckS at h
    split at h
    · simp only [Bool.and_eq_true, decide_eq_true_eq] at h
      obtain ⟨⟨⟨⟨⟨rfl, h1⟩, h2⟩, h3⟩, h4⟩, h5⟩ := h
      exact s_ext (sE o G V _ h4) (sE e G V _ h5) (base_ok h1) h3 (star_ok h2) (few_ok h2)
    · cases h
  | .onw i as, X, W, sc, fn, G, V, hst, hfr, hp, x, h => by
    unfold ckS at h
    split at h
    · simp only [Bool.and_eq_true] at h
      obtain ⟨⟨h1, h2⟩, h3⟩ := h
      exact s_onw G (at_ok V h1) (sto_ok V h2) (sA as G V _ h3)
    · cases h
  | .ona o as, X, W, sc, fn, G, V, hst, hfr, hp, x, h => by
    unfold ckS at h
    split at h
    · simp only [Bool.and_eq_true, decide_eq_true_eq] at h
      obtain ⟨⟨⟨⟨⟨rfl, h1⟩, h2⟩, h3⟩, h4⟩, h5⟩ := h
      exact s_ona (at_ok V h1) (vis_ok V h2) (okn1 h3) (okn2 h3) (sA as G V _ h5) h4
    · cases h
  | .ali i o e, X, W, sc, fn, G, V, hst, hfr, hp, x, h => by
    unfold ckS at h
    split at h
    · simp only [Bool.and_eq_true] at h
      obtain ⟨⟨⟨⟨⟨⟨h1, h2⟩, h3⟩, h4⟩, h5⟩, h6⟩, h7⟩ := h
      exact s_ali G (at_ok V h1) (sto_ok V h2) (at_ok V h3) (vis_ok V h4) (okn1 h5) (okn2 h5) (sE e G V _ h7) (ix_ok h6)
    · cases h
  | .apa i e, X, W, sc, fn, G, V, hst, hfr, hp, x, h => by
    unfold ckS at h
    split at h
    · simp only [Bool.and_eq_true, decide_eq_true_eq] at h
      obtain ⟨⟨⟨⟨⟨⟨rfl, h1⟩, h2⟩, h3⟩, h4⟩, h5⟩, h6⟩ := h
      exact s_apa (at_ok V h1) (vis_ok V h2) (okn1 h3) (okn2 h3) (sE e G V _ h6) h5 (star_ok h4) (few_ok h4)
    · cases h
  | .dst o k v, X, W, sc, fn, G, V, hst, hfr, hp, x, h => by
    unfold ckS at h
    split at h
    · simp only [Bool.and_eq_true] at h
      obtain ⟨⟨⟨⟨h1, h2⟩, h3⟩, h4⟩, h5⟩ := h
      exact s_dst G (at_ok V h1) (vis_ok V h2) (okn1 h3) (okn2 h3) (sE k G V _ h4) (sE v G V _ h5) swap_sub
    · cases h
  | .pop i o, X, W, sc, fn, G, V, hst, hfr, hp, x, h => by
    unfold ckS at h
    split at h
    · simp only [Bool.and_eq_true, decide_eq_true_eq] at h
      obtain ⟨⟨⟨⟨⟨h1, h2⟩, rfl⟩, h3⟩, h4⟩, h5⟩ := h
      exact s_pop G.nd (at_ok V h1) (sto_ok V h2) (sE o G V _ h5) (base_ok h3) h4
    · cases h
  | .ex e, X, W, sc, fn, G, V, hst, hfr, hp, x, h => by
    unfold ckS at h
    split at h
    · rw [Bool.and_eq_true] at h
      exact s_ex (sE e G V _ h.2) (swap_ok h.1)
    · cases h
  | .ret e, X, W, sc, fn, G, V, hst, hfr, hp, x, h => by
    unfold ckS at h
    split at h
    · exact s_ret (sE e G V _ h)
    · cases h
  | .retn, X, W, sc, fn, G, V, hst, hfr, hp, x, h => by
    unfold ckS at h
    split at h
    · exact s_retn
    · cases h
  | .iff c a b, X, W, sc, fn, G, V, hst, hfr, hp, x, h => by
    unfold ckS at h
    split at h
    · simp only [Bool.and_eq_true] at h
      exact s_if (sT c G V _ h.1.1) (sSs a G V hst hfr hp _ h.1.2) (sSs b G V hst hfr hp _ h.2)
    · cases h
  | .whl c b, X, W, sc, fn, G, V, hst, hfr, hp, x, h => by
    unfold ckS at h
    split at h
    · simp only [Bool.and_eq_true] at h
      exact s_whl hp (sT c G V _ h.1) (sSs b G V hst hfr hp _ h.2)
    · cases h
  | .forr tg it b, X, W, sc, fn, G, V, hst, hfr, hp, x, h => by
    unfold ckS at h
    split at h
    · simp only [Bool.and_eq_true] at h
      obtain ⟨⟨⟨h1, h2⟩, h3⟩, h4⟩ := h
      exact s_for hp G.calm (sI it G V _ _ h3) (sG tg G.calm G.nd V _ h1) (sSs b G V hst hfr hp _ h4) (fold_ok h2)
    · cases h
  | .brk, X, W, sc, fn, G, V, hst, hfr, hp, x, h => by
    unfold ckS at h
    split at h
    · exact s_brk
    · cases h
  | .cnt, X, W, sc, fn, G, V, hst, hfr, hp, x, h => by
    unfold ckS at h
    split at h
    · exact s_cnt
    · cases h
  | .pass, X, W, sc, fn, G, V, hst, hfr, hp, x, h => by
    unfold ckS at h
    split at h
    · exact s_pass
    · cases h
  | .rais c as, X, W, sc, fn, G, V, hst, hfr, hp, x, h => by
    unfold ckS at h
    split at h
    · simp only [Bool.and_eq_true, decide_eq_true_eq] at h
      obtain ⟨⟨⟨⟨⟨⟨rfl, h1⟩, h2⟩, h3⟩, h4⟩, h5⟩, h6⟩ := h
      obtain ⟨fx, ef⟩ := some_of h3
      exact s_rais G ef (glo_ok V h1) (sA as G V _ h6) (okn1 h2) (star_ok h4) (star_any h5)
    · cases h
  | .tryx b i c hs, X, W, sc, fn, G, V, hst, hfr, hp, x, h => by
    unfold ckS at h
    split at h
    · simp only [Bool.and_eq_true, decide_eq_true_eq] at h
      obtain ⟨⟨⟨⟨⟨⟨⟨⟨rfl, h1⟩, h2⟩, h3⟩, h4⟩, h5⟩, h6⟩, h7⟩, h8⟩ := h
      have lc := sto_loc V h5
      exact s_try G hst hfr (at_ok V h4) lc (glo_ok V h1) (okn1 h2) h3 (fun W' pn xe tk po => sSs b (G.tr tk) ⟨V.eN, V.eS, V.eF, V.eK⟩ hst hfr po _ h7)
        fun a oe cls d pn hz hf => sHS hs G V ⟨at_ok V h4, .inl lc, okn1 h6, okn2 h6⟩ hz hf _ h8
    · cases h
  | .dead, X, W, sc, fn, G, V, hst, hfr, hp, x, h => s_dead
theorem sSs : ∀ (st : Ss) {X : Cx} {W : WX} {sc : Scope} {fn : Str → Bool} (G : Gd X Γ cl g k W) (V : Nv X N sc fn) (hst : X.stack = X.env :: X.outer) (hfr : X.env.frame = some X.env.locals) (hp : PassesOwn (model X.prog X.w) X.A X.env X.xe) (x : List Stmt), ckSs g N Γ st sc fn x = true → PSs X x (tSs Γ cl X.K W st)
  | .nil, X, W, sc, fn, G, V, hst, hfr, hp, x, h => by
    unfold ckSs at h
    rw [nil_of h]
    exact ss_nil
  | .cons a r, X, W, sc, fn, G, V, hst, hfr, hp, x, h => by
    unfold ckSs at h
    split at h
    · simp only [Bool.and_eq_true] at h
      exact ss_cons (sS a G V hst hfr hp _ h.1) (sSs r G V hst hfr hp _ h.2)
    · cases h
end
end
end M
set_option linter.all false
set_option Elab.async false
set_option maxRecDepth 10000
/-! MiniS: a def's promise, from what its body does on plain data. -/
namespace M
open PySem PySem.Spec PyProof.Rows L2

/-! ### the call of a def: its body runs -/
theorem code_of {CX : CXT} {P : Program} {w : World} {K : PySem.W.Frag} {mg : Str → Option Value} {base : Heap} {k : Nat} {f : Addr} {nm qn : Str} {pa : Arguments} {bd : List Stmt} {sco : Scope} {v1 v2 v3 v4 cd v5 v6 : Value} {an od : Option Addr}
    {sl : Array (Option Value)} {N ps : List Str} {A : Around} {ou : List PySem.Env} {s : Shared} {H : Hp} {ar : Args} {us : List Value} {vs : List V} {Q : VK} {E : XK}
    (lk : K.lookup f = some ⟨v6, od, .func (PySem.W.fnOf nm qn pa bd sco v1 v2 v3 v4 an cd v5), sl⟩) (hcd : PySem.W.codeIn K cd qn = true) (S : FnScope N ps sco) (hr : Room (k + 1) A) (e0 : Env0 P w K mg base A ou s H)
    (hb : BindsTo s (PySem.W.fnOf nm qn pa bd sco v1 v2 v3 v4 an cd v5) ar (ps.zip us)) (r : Vals vs us) (hl : vs.length = ps.length)
    (body : ∃ t, PSs (cxOf CX P w K mg base N qn sco f cd A ou s H E) bd t ∧ t { nx := fun _ H' => Q .non H', rt := Q } (L2.start N vs) H) : codeAny (model P w) A (.call (.ref f) ar) (CR CX ou P w H s Q E) s := by
  have kx : K.In s.heap := e0.mod.kin.keeps fun b o z => (e0.bs b o z).1
  have nl : s.heap.NoLimit := e0.mod.nolimit.keeps fun b o z => (e0.bs b o z).1
  refine codeAny_call_function hr.depth (kx _ _ lk) rfl S.co S.gen rfl (PySem.W.codeRec_of kx hcd) (hb _ _ _ _ ?_)
  refine wpAny_newFunctionEnv_cells S.kind (fun y hy => ?_) fun en he s1 x => ?_
  · obtain ⟨n, v⟩ := y
    exact (S.par n (List.of_mem_zip hy).1).imp id fun z => ⟨z, PySem.W.cellsFrom_some _ _ _ (.inl z)⟩
  · subst he
    obtain ⟨t, ht, q⟩ := body
    refine ⟨nl.keeps x.toInCall.keep, codeAny_func (wpAny_mono (ht.run [] s1 (L2.start N vs) H _ (inv_start S hr.hd e0 hl r x) q) (fun fl s' z => ?_) fun _ _ z => z)⟩
    cases fl with
    | ret u =>
      obtain ⟨v, σ', H', J, rv, z⟩ := z
      exact ⟨v, H', J.os, J.bare, J.base, J.hok, rv, z⟩
    | next =>
      obtain ⟨σ', H', J, z⟩ := z
      exact ⟨V.non, H', J.os, J.bare, J.base, J.hok, rfl, z⟩
    | brk =>
      obtain ⟨_, _, _, z⟩ := z
      exact z.elim
    | cont =>
      obtain ⟨_, _, _, z⟩ := z
      exact z.elim

/-! ### the slots at the entry -/
/-- the lists that were handed in to be changed, by their slots -/
def iosOf (ms : List Mo) (vs : List V) : List (Nat × Addr) := (List.range ms.length).filterMap fun (j : Nat) => match ms[j]?, vs[j]? with
  | some Mo.io, some (V.ref a) => some (j, a)
  | _, _ => none
theorem mem_ios {ms : List Mo} {vs : List V} {j : Nat} {a : Addr} : (j, a) ∈ iosOf ms vs ↔ ms[j]? = some .io ∧ vs[j]? = some (V.ref a) := by
  unfold iosOf
  rw [List.mem_filterMap]
  constructor
  · rintro ⟨i, _, e⟩
    split at e
    · rename_i h1 h2
      cases e
      exact ⟨h1, h2⟩
    · cases e
  · rintro ⟨h1, h2⟩
    refine ⟨j, List.mem_range.mpr (List.getElem?_eq_some_iff.mp h1).1, ?_⟩
    rw [h1, h2]
theorem mem_ioA {a : Addr} : ∀ {ms : List Mo} {vs : List V}, (∃ j : Nat, ms[j]? = some Mo.io ∧ vs[j]? = some (V.ref a)) → a ∈ ioA ms vs
  | [], _, ⟨j, h, _⟩ => by simp at h
  | m :: ms, [], ⟨j, _, h⟩ => by simp at h
  | m :: ms, v :: vs, ⟨j, h1, h2⟩ => by
    cases j with
    | zero =>
      simp only [List.getElem?_cons_zero, Option.some.injEq] at h1 h2
      subst h1 h2
      exact List.mem_cons_self
    | succ j =>
      have ih : a ∈ ioA ms vs := mem_ioA ⟨j, by simpa using h1, by simpa using h2⟩
      cases m with
      | io =>
        cases v with
        | ref b => exact List.mem_cons_of_mem _ ih
        | _ => exact ih
      | _ => exact ih
theorem ioA_mem {a : Addr} : ∀ {ms : List Mo} {vs : List V}, a ∈ ioA ms vs → ∃ j : Nat, ms[j]? = some Mo.io ∧ vs[j]? = some (V.ref a)
  | [], vs, h => by cases vs <;> cases h
  | m :: ms, [], h => by cases m <;> cases h
  | m :: ms, v :: vs, h => by
    have up : a ∈ ioA ms vs → ∃ j : Nat, (m :: ms)[j]? = some Mo.io ∧ (v :: vs)[j]? = some (V.ref a) := fun h => by
      obtain ⟨j, h1, h2⟩ := ioA_mem h
      exact ⟨j + 1, h1, h2⟩
    cases m with
    | io =>
      cases v with
      | ref b =>
        rcases List.mem_cons.mp (show a ∈ b :: ioA ms vs from h) with e | e
        · exact ⟨0, rfl, by rw [e] <;> rfl⟩
        · exact up e
      | _ => exact up h
    | _ => exact up h
theorem ioA_inj {a : Addr} : ∀ {ms : List Mo} {vs : List V} {i j : Nat}, (ioA ms vs).Nodup → ms[i]? = some Mo.io → vs[i]? = some (V.ref a) → ms[j]? = some Mo.io → vs[j]? = some (V.ref a) → i = j
  | [], _, i, j, _, h, _, _, _ => by simp at h
  | m :: ms, [], i, j, _, _, h, _, _ => by simp at h
  | m :: ms, v :: vs, i, j, nd, h1, h2, h3, h4 => by
    have tail : (ioA ms vs).Nodup := by
      cases m with
      | io =>
        cases v with
        | ref b => exact (List.nodup_cons.mp (show (b :: ioA ms vs).Nodup from nd)).2
        | _ => exact nd
      | _ => exact nd
    have head : ∀ j : Nat, m = .io → v = V.ref a → ms[j]? = some Mo.io → vs[j]? = some (V.ref a) → False := fun j e1 e2 g3 g4 => by
      subst e1 e2
      exact (List.nodup_cons.mp (show (a :: ioA ms vs).Nodup from nd)).1 (mem_ioA ⟨j, g3, g4⟩)
    cases i with
    | zero =>
      cases j with
      | zero => rfl
      | succ j =>
        simp only [List.getElem?_cons_zero, List.getElem?_cons_succ, Option.some.injEq] at h1 h2 h3 h4
        exact (head j h1 h2 h3 h4).elim
    | succ i =>
      cases j with
      | zero =>
        simp only [List.getElem?_cons_zero, List.getElem?_cons_succ, Option.some.injEq] at h1 h2 h3 h4
        exact (head i h3 h4 h1 h2).elim
      | succ j =>
        simp only [List.getElem?_cons_succ] at h1 h2 h3 h4
        exact congrArg Nat.succ (ioA_inj tail h1 h2 h3 h4)
section
variable {cl : Str → Addr → Prop} {K : PySem.W.Frag} {F H F' H' : Hp}
/-- what stands in a parameter's slot -/
def P0 (cl : Str → Addr → Prop) (K : PySem.W.Frag) (F H : Hp) (m : Mo) (bs : List Addr) (v : V) : Sl → Prop
  | .sh d => Rep cl K F v d
  | .bo l => ∃ a ws, v = .ref a ∧ H a = some (.lst ws) ∧ Reps cl K F ws l ∧ a ∈ bs
  | .bd l => ∃ a ws, v = .ref a ∧ H a = some (.dK ws) ∧ RepK cl K F ws l ∧ a ∈ bs
  | .io l => ∃ a ws, v = .ref a ∧ m = .io ∧ F a = none ∧ H a = some (.lst ws) ∧ Reps cl K F ws l
  | _ => False
theorem P0.mono {m : Mo} {bs bs' : List Addr} {v : V} {t : Sl} (h : P0 cl K F H m bs v t) (w : ∀ a ∈ bs, a ∈ bs') : P0 cl K F H m bs' v t := by
  cases t with
  | bo l =>
    obtain ⟨a, ws, e, h1, h2, h3⟩ := h
    exact ⟨a, ws, e, h1, h2, w a h3⟩
  | bd l =>
    obtain ⟨a, ws, e, h1, h2, h3⟩ := h
    exact ⟨a, ws, e, h1, h2, w a h3⟩
  | _ => exact h
theorem start_core : ∀ {vs : List V} {ms : List Mo} {ds : List D} {ρ : En}, ArgsR cl K F H vs ms ds → startE ms ds = some ρ → ρ.length = vs.length ∧ ms.length = vs.length ∧ (∀ a ∈ boA ms vs ds, H a ≠ none) ∧
    (∀ n : Nat, ms[n]? = some Mo.io → ∃ a l, vs[n]? = some (V.ref a) ∧ ρ[n]? = some (.io l)) ∧ ∀ (i : Nat) t, ρ[i]? = some t → ∃ v m, vs[i]? = some v ∧ ms[i]? = some m ∧ P0 cl K F H m (boA ms vs ds) v t
  | _, _, _, ρ, .nil, h => by
    cases h
    exact ⟨rfl, rfl, fun a h => (by cases h), fun n h => (by cases h), fun i t h => (by cases h)⟩
  | _, _, _, ρ, .cons (v := v) (m := m) (d := d) (vs := vs) (ms := ms) (ds := ds) r rr, h => by
    have step : ∀ (t : Sl) (ρ' : En), startE ms ds = some ρ' → P0 cl K F H m (boA (m :: ms) (v :: vs) (d :: ds)) v t → (∀ a ∈ boA ms vs ds, a ∈ boA (m :: ms) (v :: vs) (d :: ds)) → (∀ a ∈ boA (m :: ms) (v :: vs) (d :: ds), a ∉ boA ms vs ds → H a ≠ none) →
        (m = .io → ∃ a l, v = V.ref a ∧ t = .io l) → (t :: ρ').length = (v :: vs).length ∧ (m :: ms).length = (v :: vs).length ∧ (∀ a ∈ boA (m :: ms) (v :: vs) (d :: ds), H a ≠ none) ∧
        (∀ n : Nat, (m :: ms)[n]? = some Mo.io → ∃ a l, (v :: vs)[n]? = some (V.ref a) ∧ (t :: ρ')[n]? = some (.io l)) ∧ ∀ (i : Nat) t', (t :: ρ')[i]? = some t' → ∃ v' m', (v :: vs)[i]? = some v' ∧ (m :: ms)[i]? = some m' ∧ P0 cl K F H m' (boA (m :: ms) (v :: vs) (d :: ds)) v' t' := fun t ρ' e p sub ne io => by
      obtain ⟨l1, l2, l3, l4, l5⟩ := start_core rr e
      refine ⟨congrArg Nat.succ l1, congrArg Nat.succ l2, fun a ha => ?_, fun n hn => ?_, fun i t' hi => ?_⟩
      · by_cases hb : a ∈ boA ms vs ds
        · exact l3 a hb
        · exact ne a ha hb
      · cases n with
        | zero =>
          simp only [List.getElem?_cons_zero, Option.some.injEq] at hn
          obtain ⟨a, l, e1, e2⟩ := io hn
          exact ⟨a, l, by rw [e1] <;> rfl, by rw [e2] <;> rfl⟩
        | succ n => exact l4 n (by simpa using hn)
      · cases i with
        | zero =>
          simp only [List.getElem?_cons_zero, Option.some.injEq] at hi
          exact ⟨v, m, rfl, rfl, by rw [← hi]; exact p⟩
        | succ i =>
          obtain ⟨v', m', e1, e2, e3⟩ := l5 i t' (by simpa using hi)
          exact ⟨v', m', e1, e2, e3.mono sub⟩
    cases m with
    | sh =>
      obtain ⟨ρ', e, rfl⟩ := Option.map_eq_some_iff.mp (show (startE ms ds).map (Sl.sh d :: ·) = some ρ from h)
      exact step _ ρ' e r (fun a ha => ha) (fun a h1 h2 => absurd h1 h2) fun z => by cases z
    | bo =>
      have sh : ∀ {d : D}, (∀ l, d ≠ .lst l) → (∀ l, d ≠ .dct l) → Rep cl K F v d → startE (.bo :: ms) (d :: ds) = (startE ms ds).map (Sl.sh d :: ·) := fun {d} n n2 _ => by
        cases d with
        | lst l => exact absurd rfl (n l)
        | dct l => exact absurd rfl (n2 l)
        | _ => rfl
      have bs : ∀ {d : D}, (∀ l, d ≠ .lst l) → (∀ l, d ≠ .dct l) → boA (.bo :: ms) (v :: vs) (d :: ds) = boA ms vs ds := fun {d} n n2 => by
        cases d with
        | lst l => exact absurd rfl (n l)
        | dct l => exact absurd rfl (n2 l)
        | _ => cases v <;> rfl
      cases d with
      | lst l =>
        obtain ⟨ρ', e, rfl⟩ := Option.map_eq_some_iff.mp (show (startE ms ds).map (Sl.bo l :: ·) = some ρ from h)
        obtain ⟨a, ws, rfl, hh, rs⟩ := r
        refine step _ ρ' e ⟨a, ws, rfl, hh, rs, List.mem_cons_self⟩ (fun b hb => List.mem_cons_of_mem _ hb) (fun b h1 h2 => ?_) fun z => by cases z
        rcases List.mem_cons.mp (show b ∈ a :: boA ms vs ds from h1) with z | z
        · rw [z, hh]
          simp
        · exact absurd z h2
      | dct l =>
        obtain ⟨ρ', e, rfl⟩ := Option.map_eq_some_iff.mp (show (startE ms ds).map (Sl.bd l :: ·) = some ρ from h)
        obtain ⟨a, ws, rfl, hh, rs⟩ := r
        refine step _ ρ' e ⟨a, ws, rfl, hh, rs, List.mem_cons_self⟩ (fun b hb => List.mem_cons_of_mem _ hb) (fun b h1 h2 => ?_) fun z => by cases z
        rcases List.mem_cons.mp (show b ∈ a :: boA ms vs ds from h1) with z | z
        · rw [z, hh]
          simp
        · exact absurd z h2
      | _ =>
        have hr : Rep cl K F v _ := r
        rw [sh (fun l z => by cases z) (fun l z => by cases z) hr] at h
        obtain ⟨ρ', e, rfl⟩ := Option.map_eq_some_iff.mp h
        refine step _ ρ' e r (fun a ha => ?_) (fun a h1 h2 => ?_) fun z => by cases z
        · rw [bs (fun l z => by cases z) (fun l z => by cases z)]
          exact ha
        · rw [bs (fun l z => by cases z) (fun l z => by cases z)] at h1
          exact absurd h1 h2
    | io =>
      cases d with
      | lst l =>
        obtain ⟨ρ', e, rfl⟩ := Option.map_eq_some_iff.mp (show (startE ms ds).map (Sl.io l :: ·) = some ρ from h)
        obtain ⟨a, ws, rfl, hf, hh, rs⟩ := r
        exact step _ ρ' e ⟨a, ws, rfl, rfl, hf, hh, rs⟩ (fun b hb => hb) (fun b h1 h2 => absurd h1 h2) fun _ => ⟨a, l, rfl, rfl⟩
      | _ => exact (show False from r).elim
theorem outs_core {ρ : En} : ∀ {ms : List Mo} {vs : List V} {i : Nat} {o : List (List D)}, ms.length = vs.length → (∀ n : Nat, ms[n]? = some Mo.io → ∃ a, vs[n]? = some (V.ref a) ∧ ∀ l, ρ[i + n]? = some (.io l) → ∃ ws, F' a = none ∧ H' a = some (.lst ws) ∧ Reps cl K F' ws l) →
    outsOf ρ ms i = some o → OutsR cl K F' H' (ioA ms vs) o
  | [], [], i, o, _, _, h => by
    cases h
    exact .nil
  | [], _ :: _, _, _, hl, _, _ => by cases hl
  | _ :: _, [], _, _, hl, _, _ => by cases hl
  | m :: ms, v :: vs, i, o, hl, hv, h => by
    have tl : ∀ n : Nat, ms[n]? = some Mo.io → ∃ a, vs[n]? = some (V.ref a) ∧ ∀ l, ρ[i + 1 + n]? = some (.io l) → ∃ ws, F' a = none ∧ H' a = some (.lst ws) ∧ Reps cl K F' ws l := fun n hn => by
      obtain ⟨a, e, z⟩ := hv (n + 1) (by simpa using hn)
      exact ⟨a, by simpa using e, fun l hl => z l (by rw [← hl]; congr 1; omega)⟩
    cases m with
    | io =>
      obtain ⟨a, e, z⟩ := hv 0 rfl
      simp only [List.getElem?_cons_zero, Option.some.injEq] at e
      subst e
      have h : (match ρ[i]? with
        | some (.io ds) => (outsOf ρ ms (i + 1)).map (ds :: ·)
        | _ => none) = some o := h
      split at h
      · rename_i ds es
        obtain ⟨o', e, rfl⟩ := Option.map_eq_some_iff.mp h
        obtain ⟨ws, x1, x2, x3⟩ := z ds es
        exact .cons x2 x1 x3 (outs_core ((by simpa using hl)) tl e)
      · cases h
    | sh => exact (outs_core (ms := ms) (vs := vs) (i := i + 1) (by simpa using hl) tl h : OutsR cl K F' H' (ioA ms vs) o)
    | bo => exact (outs_core (ms := ms) (vs := vs) (i := i + 1) (by simpa using hl) tl h : OutsR cl K F' H' (ioA ms vs) o)
/-- from the promise to the body -/
theorem def_core {Γ : Tb} {fn : Fn} {n : Nat} {b : Ss} {N : List Str} {vs : List V} {Q : VK} {E : XK} (hN : N.length = fn.ps.length + n) (law : ∀ ds Q1 X1, fn.sp ds Q1 X1 → dDef Γ fn.ps n b ds Q1 X1) (h : spOf cl K fn vs H Q E) :
    tSs Γ cl K (fun cc d _ H' => E cc d H') b { nx := fun _ H' => Q .non H', rt := Q } (L2.start N vs) H := by
  obtain ⟨F, ds, Q1, X1, m0, ar, nd, ap, sp, qr, qx⟩ := h
  have h := law ds Q1 X1 sp
  unfold dDef at h
  cases e : startE fn.ps ds with
  | none =>
    rw [e] at h
    exact h.elim
  | some ρ0 =>
    rw [e] at h
    obtain ⟨l1, l2, l3, l4, l5⟩ := start_core ar e
    have sl : ∀ {i : Nat}, i < vs.length → (L2.start N vs)[i]? = vs[i]?.map some := fun {i} hi => by
      unfold L2.start
      rw [List.getElem?_append_left (by rw [List.length_map]; exact hi), List.getElem?_map]
    have Rl0 : Rl cl K (ct0 F H (iosOf fn.ps vs) (fun a => a ∈ boA fn.ps vs ds) l3) F (ρ0 ++ List.replicate n .top) (L2.start N vs) H := by
      have inl : ∀ {i : Nat} {t : Sl}, (ρ0 ++ List.replicate n Sl.top)[i]? = some t → ρ0[i]? = some t ∨ t = .top := fun {i t} h => by
        by_cases hi : i < ρ0.length
        · rw [List.getElem?_append_left hi] at h
          exact .inl h
        · rw [List.getElem?_append_right (by omega), List.getElem?_replicate] at h
          split at h
          · cases h
            exact .inr rfl
          · cases h
      refine ⟨?_, m0, Same.refl F, fun a _ h => absurd ‹_› (by assumption), fun a o h _ => h, fun i t ht => ?_, fun i j t t' a hij h1 h2 o1 o2 z1 z2 => ?_, fun j a hj => ?_⟩
      · unfold L2.start
        rw [List.length_append, List.length_append, List.length_replicate, List.length_replicate, List.length_map]
        omega
      · rcases inl ht with ht | ht
        · obtain ⟨v, m, e1, e2, p⟩ := l5 i t ht
          have hi := (List.getElem?_eq_some_iff.mp e1).1
          rw [sl hi, e1]
          cases t with
          | sh d => exact ⟨v, rfl, p⟩
          | bo l =>
            obtain ⟨a, ws, rfl, x1, x2, x3⟩ := p
            exact ⟨a, ws, rfl, x1, ⟨fun j hj => ap a (mem_ioA ⟨j, mem_ios.mp hj⟩) x3, x3⟩, x2⟩
          | bd l =>
            obtain ⟨a, ws, rfl, x1, x2, x3⟩ := p
            exact ⟨a, ws, rfl, x1, ⟨fun j hj => ap a (mem_ioA ⟨j, mem_ios.mp hj⟩) x3, x3⟩, x2⟩
          | io l =>
            obtain ⟨a, ws, rfl, rfl, x1, x2, x3⟩ := p
            exact ⟨a, ws, rfl, mem_ios.mpr ⟨e2, e1⟩, x1, x2, x3⟩
          | _ => exact p.elim
        · rw [ht]
          trivial
      · rcases inl h1 with h1 | h1
        · rcases inl h2 with h2 | h2
          · obtain ⟨v, m, e1, e2, p⟩ := l5 i t h1
            obtain ⟨v', m', e1', e2', p'⟩ := l5 j t' h2
            rw [sl (List.getElem?_eq_some_iff.mp e1).1, e1] at z1
            rw [sl (List.getElem?_eq_some_iff.mp e1').1, e1'] at z2
            cases z1
            cases z2
            cases t with
            | io l =>
              cases t' with
              | io l' =>
                obtain ⟨_, _, _, rfl, _⟩ := p
                obtain ⟨_, _, _, rfl, _⟩ := p'
                exact hij (ioA_inj nd e2 e1 e2' e1')
              | _ => first | exact (show False from p').elim | cases o2
            | _ => first | exact (show False from p).elim | cases o1
          · rw [h2] at o2
            cases o2
        · rw [h1] at o1
          cases o1
      · obtain ⟨h1, h2⟩ := mem_ios.mp hj
        obtain ⟨a', l, e1, e2⟩ := l4 j h1
        rw [h2] at e1
        cases e1
        obtain ⟨v, m, x1, x2, p⟩ := l5 j _ e2
        obtain ⟨b, ws, rfl, _, _, x3, _⟩ := p
        rw [h2] at x1
        cases x1
        have ne : H a ≠ none := fun z => by
          rw [z] at x3
          cases x3
        exact ⟨ne, ne⟩
    have lo : ∀ {c' : Ct}, Xt (ct0 F H (iosOf fn.ps vs) (fun a => a ∈ boA fn.ps vs ds) l3) c' → ∀ {a : Addr}, c'.H0 a = none → H a = none := fun {c'} xt a ha => by
      cases e : H a with
      | none => rfl
      | some o =>
        have q := c'.gB a o (by rw [xt.b]; exact e)
        rw [ha] at q
        cases q
    have aft : ∀ {c' : Ct} {ρ : En} {F' : Hp} {σ : L2.St} {H' : Hp}, Xt (ct0 F H (iosOf fn.ps vs) (fun a => a ∈ boA fn.ps vs ds) l3) c' → Same F F' → Rl cl K c' F' ρ σ H' → Aft F H F' H' (ioA fn.ps vs) ∧ ∀ o, outsOf ρ fn.ps 0 = some o → OutsR cl K F' H' (ioA fn.ps vs) o := fun {c' ρ F' σ H'} xt m R => by
      have ei : c'.ios = iosOf fn.ps vs := xt.ios
      refine ⟨⟨m, R.fh, fun a h1 h2 => lo xt (R.fn a h1 (by rw [xt.f0]; exact h2)), fun a o ha hn => R.kp a o (c'.gB a o (by rw [xt.b]; exact ha)) fun j hj => hn (mem_ioA ⟨j, mem_ios.mp (by rw [← ei]; exact hj)⟩), fun a ha => ?_⟩, fun o ho => ?_⟩
      · obtain ⟨j, h1, h2⟩ := ioA_mem ha
        exact (R.io j a (by rw [ei]; exact mem_ios.mpr ⟨h1, h2⟩)).2
      · refine outs_core l2 (fun k hk => ?_) ho
        obtain ⟨a, l, e1, e2⟩ := l4 k hk
        refine ⟨a, e1, fun l' hl => ?_⟩
        obtain ⟨b, ws, x0, x1, x2, x3, x4⟩ := R.sl (0 + k) _ hl
        rw [Nat.zero_add] at x1
        rw [ei] at x1
        obtain ⟨y1, y2⟩ := mem_ios.mp x1
        rw [e1] at y2
        cases y2
        exact ⟨ws, x2, x3, x4⟩
    refine ⟨_, F, _, _, Rl0, h, .of fun c' xt => ⟨fun ρ F' σ H' z m R => ?_, fun r ρ F' σ v H' z m R rr => ?_, fun _ _ _ _ z => z.elim, fun _ _ _ _ z => z.elim, fun x ρ F' σ H' cc d z m R ex => qx x cc d F' H' z (aft xt m R).1 ex⟩⟩
    · obtain ⟨o, ho, z⟩ := z
      exact qr (.sh .non) o V.non F' H' z (aft xt m R).1 .non ((aft xt m R).2 o ho)
    · obtain ⟨x, o, hx, ho, z⟩ := z
      refine qr x o v F' H' z (aft xt m R).1 ?_ ((aft xt m R).2 o ho)
      cases r with
      | sh d =>
        cases hx
        exact rr
      | fr l =>
        cases hx
        obtain ⟨a, ws, rfl, h0, hf, hh, rs, _⟩ := rr
        exact ⟨a, ws, rfl, lo xt h0, hf, hh, rs⟩
      | fd l => cases hx
      | br i =>
        have hx : (match ρ[i]? with
          | some (.sh d) => some (.sh d)
          | some (.ow ds) => some (.fr ds)
          | _ => none) = some x := hx
        split at hx
        · rename_i d ed
          cases hx
          obtain ⟨w, e1, e2⟩ := R.sl i _ ed
          rw [show (σ[i]? = some (some v)) from rr] at e1
          cases e1
          exact e2
        · rename_i l el
          cases hx
          obtain ⟨a, ws, e1, h0, hf, hh, rs⟩ := R.sl i _ el
          rw [show (σ[i]? = some (some v)) from rr] at e1
          cases e1
          exact ⟨a, ws, rfl, lo xt h0, hf, hh, rs⟩
        · cases hx
end
end M
set_option linter.all false
set_option Elab.async false
set_option maxRecDepth 10000
/-! MiniT: what stands at the module's top; defs one after another. -/
namespace M
open PySem PySem.Spec PyProof.Rows L2 C8
/-- as Gd, without the body's own part -/
structure Sta (P : Program) (w : World) (K : PySem.W.Frag) (mg : Str → Option Value) (base : Heap) (Γ : Tb) (cl : Str → Addr → Prop) (g : Bool) (k : Nat) : Prop where
  bn : ∀ x ∈ bnames, mg x = none
  fn : ∀ x fn, Γ.f x = some fn → ∃ f fd ps dvs ds, mg x = some (.ref f) ∧ PySem.W.keepIn K (.ref f) = true ∧ Vals dvs ds ∧ BindK K fd ps [] ds ∧
    FnG g P w K mg base k f fd ps fun vs H Q E => ∃ us, vs = us ++ dvs ∧ spOf cl K fn us H Q E
  fk : ∀ x ks fn, Γ.fk x ks = some fn → ∃ f fd ps dvs ds, mg x = some (.ref f) ∧ PySem.W.keepIn K (.ref f) = true ∧ Vals dvs ds ∧ BindK K fd ps ks ds ∧
    FnG g P w K mg base k f fd ps fun vs H Q E => ∃ us, vs = us ++ dvs ∧ spOf cl K fn us H Q E
  cls : ∀ c C, cl c C → Cls K C
  fld : ∀ c C f, cl c C → Γ.fld c f = true → NoAttr K C f
  mt : ∀ c C m fn, cl c C → Γ.m c m = some fn → ∃ f fd ps dvs ds, Meth K C m f ∧ Vals dvs ds ∧ BindK K fd ps [] ds ∧
    FnG g P w K mg base k f fd ps fun vs H Q E => ∃ us, vs = us ++ dvs ∧ spOf cl K fn us H Q E
  pr : ∀ c C f fn, cl c C → Γ.p c f = some fn → ∃ p q fd ps, PropOf K C f p q ∧ Binds K fd ps [] ∧ FnOk P w K mg base (L2.CX P w) k q fd ps (spOf cl K fn)
  mkr : ∀ c fn, Γ.mke c = some fn → ∃ C fI fd ps spI, cl c C ∧ mg c = some (.ref C) ∧ Mk K C fI ∧ Binds K fd ps [] ∧ FnOk P w K mg base (L2.CX P w) k fI fd ps spI ∧
    ∀ vs H Q E, spOf cl K fn vs H Q E → ∀ x dx, H x = none → H dx = none → dx ≠ x → spI (.ref x :: vs) (upd (upd H dx (.own x)) x (.ins C dx [])) (fun v H2 => v = .non ∧ Q (.ref x) H2) E
  iti : ∀ c C f, cl c C → Γ.itf c = some f → NoAttr K C f ∧ ∃ fi fd ps, Meth K C "__iter__" fi ∧ Binds K fd ps [] ∧ ItOk P w K mg base k fi fd ps f
  itl : ∀ c C f, cl c C → Γ.itf c = some f → NoAttr K C f ∧ ∃ fi fd ps, Meth K C "__len__" fi ∧ Binds K fd ps [] ∧ FnOk P w K mg base (L2.CX P w) k fi fd ps (spLn K f)
  isk : ∀ c C, cl c C → IsC K C
  isn : ∀ c, Γ.isn c = true → ∃ C, cl c C ∧ mg c = some (.ref C) ∧ PySem.W.keepIn K (.ref C) = true ∧ ∀ c' C', cl c' C' → PySem.W.kitOne K (.ref C') (.ref C) = some (decide (c' = c))
  un : ∀ c C C', cl c C → cl c C' → C = C'
  ex : ∀ c fx, Γ.exn c = some fx → mg c = some (.ref (He.ga K c)) ∧ OexC K (He.ga K c) ∧ ∃ fI fd ps sp, PySem.W.findIn K (.ref (He.ga K c)) "__init__" = some (some (.ref fI)) ∧ PySem.W.typeIn K (.ref fI) = some (.type "function") ∧
    FnOk P w K mg base (L2.CX P w) k fI fd ps sp ∧ Binds K fd ps [] ∧ MkX cl K fx (He.ga K c) sp
  xi : ∀ c d b, Γ.isx c d = some b → mg d = some (.ref (He.ga K d)) ∧ PySem.W.kitOne K (.ref (He.ga K c)) (.ref (He.ga K d)) = some b ∧ PySem.W.exmOne K (.ref (He.ga K c)) (.ref (He.ga K d)) = some b ∧ XiC K (He.ga K c)
  xf : ∀ c f, Γ.xfl c f = true → XfC K (He.ga K c) ∧ PySem.W.findIn K (.ref (He.ga K c)) f = some none
theorem ItOk.mono {P : Program} {w : World} {K : PySem.W.Frag} {mg : Str → Option Value} {base : Heap} {j k : Nat} {f : Addr} {fd : FuncData} {ps : List Str} {x : Str} (F : ItOk P w K mg base j f fd ps x) (h : j ≤ k) : ItOk P w K mg base k f fd ps x :=
  ⟨F.len, fun A o s H a us vs Q E hr => F.run A o s H a us vs Q E (hr.mono h)⟩
section
variable {P : Program} {w : World} {K : PySem.W.Frag} {mg : Str → Option Value} {base : Heap} {Γ : Tb} {cl : Str → Addr → Prop} {g : Bool} {j k : Nat}
theorem Sta.mono (S : Sta P w K mg base Γ cl g j) (h : j ≤ k) : Sta P w K mg base Γ cl g k where
  bn := S.bn
  fn := fun x fn e => by
    obtain ⟨f, fd, ps, dvs, ds, h1, h2, h3, h4, h5⟩ := S.fn x fn e
    exact ⟨f, fd, ps, dvs, ds, h1, h2, h3, h4, h5.mono h⟩
  fk := fun x ks fn e => by
    obtain ⟨f, fd, ps, dvs, ds, h1, h2, h3, h4, h5⟩ := S.fk x ks fn e
    exact ⟨f, fd, ps, dvs, ds, h1, h2, h3, h4, h5.mono h⟩
  cls := S.cls
  fld := S.fld
  mt := fun c C m fn hc e => by
    obtain ⟨f, fd, ps, dvs, ds, h1, h3, h4, h5⟩ := S.mt c C m fn hc e
    exact ⟨f, fd, ps, dvs, ds, h1, h3, h4, h5.mono h⟩
  pr := fun c C f fn hc e => by
    obtain ⟨p, q, fd, ps, h1, h2, h3⟩ := S.pr c C f fn hc e
    exact ⟨p, q, fd, ps, h1, h2, h3.mono h⟩
  mkr := fun c fn e => by
    obtain ⟨C, fI, fd, ps, spI, h1, h2, h3, h4, h5, h6⟩ := S.mkr c fn e
    exact ⟨C, fI, fd, ps, spI, h1, h2, h3, h4, h5.mono h, h6⟩
  iti := fun c C f hc e => by
    obtain ⟨na, fi, fd, ps, h1, h2, h3⟩ := S.iti c C f hc e
    exact ⟨na, fi, fd, ps, h1, h2, h3.mono h⟩
  itl := fun c C f hc e => by
    obtain ⟨na, fi, fd, ps, h1, h2, h3⟩ := S.itl c C f hc e
    exact ⟨na, fi, fd, ps, h1, h2, h3.mono h⟩
  isk := S.isk
  isn := S.isn
  un := S.un
  ex := fun c fx e => by
    obtain ⟨h1, h2, fI, fd, ps, sp, h3, h4, h5, h6⟩ := S.ex c fx e
    exact ⟨h1, h2, fI, fd, ps, sp, h3, h4, h5.mono h, h6⟩
  xi := S.xi
  xf := S.xf
theorem Sta.tt (S : Sta P w K mg base Γ cl g k) : Sta P w K mg base Γ cl true k where
  bn := S.bn
  fn := fun x fn e => by
    obtain ⟨f, fd, ps, dvs, ds, h1, h2, h3, h4, h5⟩ := S.fn x fn e
    exact ⟨f, fd, ps, dvs, ds, h1, h2, h3, h4, h5.tt⟩
  fk := fun x ks fn e => by
    obtain ⟨f, fd, ps, dvs, ds, h1, h2, h3, h4, h5⟩ := S.fk x ks fn e
    exact ⟨f, fd, ps, dvs, ds, h1, h2, h3, h4, h5.tt⟩
  cls := S.cls
  fld := S.fld
  mt := fun c C m fn hc e => by
    obtain ⟨f, fd, ps, dvs, ds, h1, h3, h4, h5⟩ := S.mt c C m fn hc e
    exact ⟨f, fd, ps, dvs, ds, h1, h3, h4, h5.tt⟩
  pr := S.pr
  mkr := S.mkr
  iti := S.iti
  itl := S.itl
  isk := S.isk
  isn := S.isn
  un := S.un
  ex := S.ex
  xi := S.xi
  xf := S.xf
/-- where a body stands -/
theorem gd_of {N : List Str} {qn : Str} {sco : Scope} {f : Addr} {cd : Value} {A : Around} {ou : List PySem.Env} {s : Shared} {H : Hp} {E : XK} (S : Sta P w K mg base Γ cl g k) (nd : N.Nodup) (hg : g = true → A.guards = some []) (hr : Room (k + 3) A) :
    Gd (cxOf (L2.CX P w) P w K mg base N qn sco f cd A ou s H E) Γ cl g k (fun cc d _ H' => E cc d H') :=
  ⟨nd, rfl, takes_of rfl rfl rfl rfl, hg, hr.deeper _, S.bn, S.fn, S.fk, S.cls, S.fld, S.mt, S.pr, S.mkr, S.iti, S.itl, S.isk, S.isn, S.un, S.ex, S.xi, S.xf⟩
/-- THE DEF: looked at, and right on plain data -/
theorem fnG_of {x qn : Str} {pa : Arguments} {bd : List Stmt} {sco : Scope} {dv : List V} {kw : List (Str × V)} {f : Addr} {fd : FuncData} {N ps : List Str} {fn : Fn} {n : Nat} {b : Ss} (F : FunD K x qn pa bd sco dv kw f fd) (hs : scC N ps sco = true) (S : Sta P w K mg base Γ cl g k)
    (hp : ps.length = fn.ps.length) (hN : N.length = fn.ps.length + n) (ck : ckSs g N Γ b sco (fun _ => true) bd = true) (law : ∀ ds Q1 X1, fn.sp ds Q1 X1 → dDef Γ fn.ps n b ds Q1 X1) : FnG g P w K mg base (k + 3) f fd ps (spOf cl K fn) := by
  obtain ⟨oc, od, dV, kV, doc, pm, an, cdv, ct, osl, rfl, lk, hcd, _, _⟩ := F.ex
  have len : ∀ vs H Q E, spOf cl K fn vs H Q E → vs.length = ps.length := fun vs H Q E h => by
    obtain ⟨_, _, _, _, _, ar, _⟩ := h
    rw [ar.len, hp]
  have sc := fnScope_by hs
  refine ⟨len, fun A ou s H ar us vs Q E hr hg e0 hb r h => code_of lk hcd sc hr e0 hb r (len _ _ _ _ h) ⟨_, sSs b (gd_of S sc.nd hg hr) ⟨rfl, rfl, fun _ => rfl, sc.kind⟩ rfl rfl (passes_of rfl) bd ck, def_core hN law h⟩⟩
theorem fnG_plain {f : Addr} {fd : FuncData} {ps : List Str} {fn : Fn} (F : FnG g P w K mg base k f fd ps (spOf cl K fn)) : FnG g P w K mg base k f fd ps fun vs H Q E => ∃ us, vs = us ++ [] ∧ spOf cl K fn us H Q E :=
  F.imp fun vs H Q E ⟨us, e, h⟩ => by
    rw [List.append_nil] at e
    subst e
    exact h
theorem bindK_of {fd : FuncData} {ps : List Str} (h : Binds K fd ps []) : BindK K fd ps [] [] := fun s us ws hin hl hw => by
  cases ws with
  | nil =>
    have := h s us hin (by simpa using hl)
    simpa using this
  | cons _ _ => cases hw

/-! ### one more -/
def Tb.addF (Γ : Tb) (x : Str) (fn : Fn) : Tb := { Γ with f := fun y => if y = x then some fn else Γ.f y }
def Tb.addM (Γ : Tb) (c m : Str) (fn : Fn) : Tb := { Γ with m := fun d y => if d = c ∧ y = m then some fn else Γ.m d y }
def Tb.addP (Γ : Tb) (c m : Str) (fn : Fn) : Tb := { Γ with p := fun d y => if d = c ∧ y = m then some fn else Γ.p d y }
def Tb.addC (Γ : Tb) (c : Str) (fn : Fn) : Tb := { Γ with mke := fun d => if d = c then some fn else Γ.mke d }
def Tb.addI (Γ : Tb) (c f : Str) : Tb := { Γ with itf := fun d => if d = c then some f else Γ.itf d }
def Tb.addS (Γ : Tb) (c : Str) : Tb := { Γ with isn := fun d => decide (d = c) || Γ.isn d }
theorem Sta.addF {x : Str} {fn : Fn} {f : Addr} {fd : FuncData} {ps : List Str} (S : Sta P w K mg base Γ cl g k) (hm : mg x = some (.ref f)) (hk : PySem.W.keepIn K (.ref f) = true) (hb : Binds K fd ps []) (F : FnG g P w K mg base k f fd ps (spOf cl K fn)) : Sta P w K mg base (Γ.addF x fn) cl g k := by
  refine { S with fn := fun y fn' e => ?_ }
  have e : (if y = x then some fn else Γ.f y) = some fn' := e
  split at e
  · rename_i ey
    cases e
    subst ey
    exact ⟨f, fd, ps, [], [], hm, hk, .nil, bindK_of hb, fnG_plain F⟩
  · exact S.fn y fn' e
theorem Sta.addM {c m : Str} {fn : Fn} {f : Addr} {fd : FuncData} {ps : List Str} (S : Sta P w K mg base Γ cl g k) (hm : ∀ C, cl c C → Meth K C m f) (hb : Binds K fd ps []) (F : FnG g P w K mg base k f fd ps (spOf cl K fn)) : Sta P w K mg base (Γ.addM c m fn) cl g k := by
  refine { S with mt := fun c' C m' fn' hc e => ?_ }
  have e : (if c' = c ∧ m' = m then some fn else Γ.m c' m') = some fn' := e
  split at e
  · rename_i ey
    cases e
    obtain ⟨rfl, rfl⟩ := ey
    exact ⟨f, fd, ps, [], [], hm C hc, .nil, bindK_of hb, fnG_plain F⟩
  · exact S.mt c' C m' fn' hc e
theorem Sta.addP {c m : Str} {fn : Fn} {p q : Addr} {fd : FuncData} {ps : List Str} (S : Sta P w K mg base Γ cl g k) (hm : ∀ C, cl c C → PropOf K C m p q) (hb : Binds K fd ps []) (F : FnOk P w K mg base (L2.CX P w) k q fd ps (spOf cl K fn)) : Sta P w K mg base (Γ.addP c m fn) cl g k := by
  refine { S with pr := fun c' C m' fn' hc e => ?_ }
  have e : (if c' = c ∧ m' = m then some fn else Γ.p c' m') = some fn' := e
  split at e
  · rename_i ey
    cases e
    obtain ⟨rfl, rfl⟩ := ey
    exact ⟨p, q, fd, ps, hm C hc, hb, F⟩
  · exact S.pr c' C m' fn' hc e
theorem Sta.addC {c : Str} {fn : Fn} {C fI : Addr} {fd : FuncData} {ps : List Str} {spI : Sp} (S : Sta P w K mg base Γ cl g k) (hc : cl c C) (hm : mg c = some (.ref C)) (M : Mk K C fI) (hb : Binds K fd ps []) (F : FnOk P w K mg base (L2.CX P w) k fI fd ps spI)
    (h : ∀ vs H Q E, spOf cl K fn vs H Q E → ∀ x dx, H x = none → H dx = none → dx ≠ x → spI (.ref x :: vs) (upd (upd H dx (.own x)) x (.ins C dx [])) (fun v H2 => v = .non ∧ Q (.ref x) H2) E) : Sta P w K mg base (Γ.addC c fn) cl g k := by
  refine { S with mkr := fun c' fn' e => ?_ }
  have e : (if c' = c then some fn else Γ.mke c') = some fn' := e
  split at e
  · rename_i ey
    cases e
    subst ey
    exact ⟨C, fI, fd, ps, spI, hc, hm, M, hb, F, h⟩
  · exact S.mkr c' fn' e
theorem Sta.addI {c f : Str} {fi fl : Addr} {fdi fdl : FuncData} {psi psl : List Str} (S : Sta P w K mg base Γ cl g k) (hn : ∀ C, cl c C → NoAttr K C f) (hi : ∀ C, cl c C → Meth K C "__iter__" fi) (hl : ∀ C, cl c C → Meth K C "__len__" fl) (bi : Binds K fdi psi []) (bl : Binds K fdl psl [])
    (Fi : ItOk P w K mg base k fi fdi psi f) (Fl : FnOk P w K mg base (L2.CX P w) k fl fdl psl (spLn K f)) : Sta P w K mg base (Γ.addI c f) cl g k := by
  refine { S with iti := fun c' C f' hc e => ?_, itl := fun c' C f' hc e => ?_ }
  · have e : (if c' = c then some f else Γ.itf c') = some f' := e
    split at e
    · rename_i ey
      cases e
      subst ey
      exact ⟨hn C hc, fi, fdi, psi, hi C hc, bi, Fi⟩
    · exact S.iti c' C f' hc e
  · have e : (if c' = c then some f else Γ.itf c') = some f' := e
    split at e
    · rename_i ey
      cases e
      subst ey
      exact ⟨hn C hc, fl, fdl, psl, hl C hc, bl, Fl⟩
    · exact S.itl c' C f' hc e
theorem Sta.addS {c : Str} {C : Addr} (S : Sta P w K mg base Γ cl g k) (hc : cl c C) (hm : mg c = some (.ref C)) (hk : PySem.W.keepIn K (.ref C) = true) (h : ∀ c' C', cl c' C' → PySem.W.kitOne K (.ref C') (.ref C) = some (decide (c' = c))) : Sta P w K mg base (Γ.addS c) cl g k := by
  refine { S with isn := fun d e => ?_ }
  have e : (decide (d = c) || Γ.isn d) = true := e
  rw [Bool.or_eq_true] at e
  rcases e with e | e
  · obtain rfl := of_decide_eq_true e
    exact ⟨C, hc, hm, hk, h⟩
  · exact S.isn d e
end
/-- nothing but fields -/
def tb0 (fld : Str → Str → Bool) : Tb := ⟨fun _ => none, fun _ _ => none, fun _ _ => none, fun _ _ => none, fld, fun _ => none, fun _ => none, fun _ => false, fun _ => none, fun _ _ => none, fun _ _ => false⟩
theorem sta0 {P : Program} {w : World} {K : PySem.W.Frag} {mg : Str → Option Value} {base : Heap} {cl : Str → Addr → Prop} {fld : Str → Str → Bool} (hb : ∀ x ∈ bnames, mg x = none) (hc : ∀ c C, cl c C → Cls K C) (hf : ∀ c C f, cl c C → fld c f = true → NoAttr K C f) (hi : ∀ c C, cl c C → IsC K C) (hu : ∀ c C C', cl c C → cl c C' → C = C') : Sta P w K mg base (tb0 fld) cl false 0 :=
  ⟨hb, fun _ _ e => (by cases e), fun _ _ _ e => (by cases e), hc, hf, fun _ _ _ _ _ e => (by cases e), fun _ _ _ _ _ e => (by cases e), fun _ _ e => (by cases e), fun _ _ _ _ e => (by cases e), fun _ _ _ _ e => (by cases e), hi, fun _ e => (by cases e), hu, fun _ _ e => (by cases e), fun _ _ _ e => (by cases e), fun _ _ e => (by cases e)⟩
end M
set_option linter.all false
set_option Elab.async false
set_option maxRecDepth 10000
/-! MiniU: the head's facts: those of HeadHook2, and those on properties and isinstance. -/
namespace M
open PySem PySem.Spec PyProof.Rows L2
def fnWa (K : PySem.W.Frag) (a : Addr) : He.FnW := match K.lookup a with
  | some ⟨_, _, .func z, _⟩ => some (z.name, z.qualname, z.params, z.body, z.scope, z.globals, z.closure, z.builtins)
  | _ => none
def okA (K : PySem.W.Frag) (a : Addr) (d : He.DefD) : Bool := PySem.W.keepIn K (.ref a) && (match K.lookup a with
  | some ⟨_, _, .func z, _⟩ => PySem.W.codeIn K z.code d.qual && (He.dflB K z.defaults (d.dvs K) && He.kwdB K z.kwdefaults (d.kws K))
  | _ => false)
theorem funDa {K : PySem.W.Frag} {a : Addr} {d : He.DefD} (e : fnWa K a = d.val) (h : okA K a d = true) : ∃ fd, FunD K d.name d.qual d.params d.body d.scope (d.dvs K) (d.kws K) a fd := by
  obtain ⟨kp, h2⟩ := Bool.and_eq_true_iff.mp h
  unfold fnWa at e
  cases q : K.lookup a with
  | none =>
    rw [q] at h2
    cases h2
  | some o =>
    obtain ⟨x1, x2, x3, x4⟩ := o
    rw [q] at h2 e
    cases x3 with
    | func fd =>
      obtain ⟨m1, m2, m3, m4, m5, m6, m7, m8, m9, m10, m11, m12, m13, m14, m15⟩ := fd
      have e2 : (some (m1, m2, m3, m4, m5, m6, m7, m15) : He.FnW) = some (d.name, d.qual, d.params, .stmts d.body, d.scope, mainGlobals, [], builtinsNs) := e
      simp only [Option.some.injEq, Prod.mk.injEq] at e2
      obtain ⟨y1, y2, y3, y4, y5, y6, y7, y8⟩ := e2
      subst y1 y2 y3 y4 y5 y6 y7 y8
      have h3 : (PySem.W.codeIn K m13 d.qual && (He.dflB K m8 (d.dvs K) && He.kwdB K m9 (d.kws K))) = true := h2
      obtain ⟨k1, k2⟩ := Bool.and_eq_true_iff.mp h3
      obtain ⟨k3, k4⟩ := Bool.and_eq_true_iff.mp k2
      exact ⟨_, ⟨x1, x2, m8, m9, m10, m11, m12, m13, m14, x4, rfl, q, k1, He.dflB_ok k3, He.kwdB_ok k4⟩, kp⟩
    | _ => cases h2
/-- a property's own function -/
def pq (K : PySem.W.Frag) (x f : Str) : Addr := match PySem.W.recIn K (He.ma K (He.ga K x) f) "property" with
  | some (.ref q :: _) => q
  | _ => 0
inductive Fb where
  | prop (x f : Str) | isc (x : Str) | kit (x y : Str) (b : Bool)
def Fb.ok (K : PySem.W.Frag) : Fb → Bool
  | .prop x f => He.eqO (PySem.W.findIn K (.ref (He.ga K x)) f) (some (some (.ref (He.ma K (He.ga K x) f)))) && (He.eqO (PySem.W.specialIn K (.ref (He.ma K (He.ga K x) f)) "__get__") (some (some (.builtin "property.__get__"))) &&
      (decide (PySem.W.takesIn K (.ref (He.ma K (He.ga K x) f)) = some true) && (match PySem.W.recIn K (He.ma K (He.ga K x) f) "property" with
        | some (.ref _ :: _) => true
        | _ => false)))
  | .isc x => He.eqO (PySem.W.findIn K (.ref (He.ga K x)) "__class__") (some (some (.builtin "object.__class__"))) && (He.eqO (PySem.W.specialIn K (.builtin "object.__class__") "__get__") (some (some (.builtin "getset_descriptor.__get__"))) &&
      (decide (PySem.W.takesIn K (.builtin "object.__class__") = some true) && decide (PySem.W.mroIn K (He.ga K x) (.type "object") = some true)))
  | .kit x y b => decide (PySem.W.kitOne K (.ref (He.ga K x)) (.ref (He.ga K y)) = some b)
theorem prop_ok {K : PySem.W.Frag} {x f : Str} (h : (Fb.prop x f).ok K = true) : PropOf K (He.ga K x) f (He.ma K (He.ga K x) f) (pq K x f) := by
  obtain ⟨h1, h⟩ := Bool.and_eq_true_iff.mp h
  obtain ⟨h2, h⟩ := Bool.and_eq_true_iff.mp h
  obtain ⟨h3, h⟩ := Bool.and_eq_true_iff.mp h
  refine ⟨He.eqO_ok h1, He.eqO_ok h2, of_decide_eq_true h3, ?_⟩
  unfold pq
  split at h
  · rename_i q r e
    rw [e]
    exact ⟨r, rfl⟩
  · cases h
theorem isc_ok {K : PySem.W.Frag} {x : Str} (h : (Fb.isc x).ok K = true) : IsC K (He.ga K x) := by
  obtain ⟨h1, h⟩ := Bool.and_eq_true_iff.mp h
  obtain ⟨h2, h⟩ := Bool.and_eq_true_iff.mp h
  obtain ⟨h3, h4⟩ := Bool.and_eq_true_iff.mp h
  exact ⟨He.eqO_ok h1, He.eqO_ok h2, of_decide_eq_true h3, of_decide_eq_true h4⟩
theorem kit_ok {K : PySem.W.Frag} {x y : Str} {b : Bool} (h : (Fb.kit x y b).ok K = true) : PySem.W.kitOne K (.ref (He.ga K x)) (.ref (He.ga K y)) = some b := of_decide_eq_true h
/-! ### the hook -/
abbrev AlM : Type := He.AlD × (Bool × List He.FnW)
def obsM (fa : List He.Fa) (fn : List He.DefD) (fb : List Fb) (pr : List (Str × Str × He.DefD)) (K : PySem.W.Frag) : AlM := (He.obsD fa fn K, (fb.all (fun z => z.ok K) && pr.all fun z => okA K (pq K z.1 z.2.1) z.2.2, pr.map fun z => fnWa K (pq K z.1 z.2.1)))
def valM (fn : List He.DefD) (pr : List (Str × Str × He.DefD)) : AlM := (He.valD fn, (true, pr.map fun z => z.2.2.val))
def SaysM (fa : List He.Fa) (fn : List He.DefD) (fb : List Fb) (pr : List (Str × Str × He.DefD)) (K : PySem.W.Frag) : Prop := obsM fa fn fb pr K = valM fn pr
def obsMG (n : Nat) (fa : List He.Fa) (fn : List He.DefD) (fb : List Fb) (pr : List (Str × Str × He.DefD)) (g : Addr → Option Obj) : AlM := obsM fa fn fb pr (He.frG g (He.asD g n))
def hookM (n : Nat) (fa : List He.Fa) (fn : List He.DefD) (fb : List Fb) (pr : List (Str × Str × He.DefD)) : PySem.W.Hook where
  α := AlM
  obs := fun s => obsMG n fa fn fb pr s.heap.get?
  val := fun _ => valM fn pr
  says := fun _ h => ∃ K : PySem.W.Frag, K.In h ∧ SaysM fa fn fb pr K
  of := fun _ _ e => ⟨_, He.frG_in, e⟩
  keeps := fun _ _ _ ⟨K, i, z⟩ k => ⟨K, PySem.W.Frag.In.keeps i k, z⟩
theorem obsMG_eq {n : Nat} {fa : List He.Fa} {fn : List He.DefD} {fb : List Fb} {pr : List (Str × Str × He.DefD)} {g : Addr → Option Obj} {s : Shared} (h : ∀ a, g a = s.heap.get? a) : obsMG n fa fn fb pr g = (hookM n fa fn fb pr).obs s := by
  have e : g = s.heap.get? := funext h
  subst e
  rfl
section
variable {fa : List He.Fa} {fn : List He.DefD} {fb : List Fb} {pr : List (Str × Str × He.DefD)} {K : PySem.W.Frag}
theorem SaysM.d (c : SaysM fa fn fb pr K) : He.SaysD fa fn K := congrArg (fun z : AlM => z.1) c
theorem SaysM.fact (c : SaysM fa fn fb pr K) {z : He.Fa} (h : z ∈ fa) : z.ok K = true := by
  obtain ⟨i, hi, e⟩ := List.mem_iff_getElem.mp h
  exact c.d.fact i (f := z) (by rw [List.getElem?_eq_getElem hi, e])
theorem SaysM.df (c : SaysM fa fn fb pr K) {d : He.DefD} (h : d ∈ fn) : ∃ fd, FunD K d.name d.qual d.params d.body d.scope (d.dvs K) (d.kws K) (He.fAd K d.at_) fd := by
  obtain ⟨i, hi, e⟩ := List.mem_iff_getElem.mp h
  exact c.d.def_ i (d := d) (by rw [List.getElem?_eq_getElem hi, e])
theorem SaysM.b (c : SaysM fa fn fb pr K) {z : Fb} (h : z ∈ fb) : z.ok K = true := by
  have e := congrArg (fun z : AlM => z.2.1) c
  exact List.all_eq_true.mp (Bool.and_eq_true_iff.mp (show (fb.all (fun z => z.ok K) && pr.all fun z => okA K (pq K z.1 z.2.1) z.2.2) = true from e)).1 z h
theorem SaysM.p (c : SaysM fa fn fb pr K) {x f : Str} {d : He.DefD} (h : (x, f, d) ∈ pr) : ∃ fd, FunD K d.name d.qual d.params d.body d.scope (d.dvs K) (d.kws K) (pq K x f) fd := by
  have e := congrArg (fun z : AlM => z.2.1) c
  have o := List.all_eq_true.mp (Bool.and_eq_true_iff.mp (show (fb.all (fun z => z.ok K) && pr.all fun z => okA K (pq K z.1 z.2.1) z.2.2) = true from e)).2 (x, f, d) h
  have e2 : pr.map (fun z => fnWa K (pq K z.1 z.2.1)) = pr.map fun z => z.2.2.val := congrArg (fun z : AlM => z.2.2) c
  obtain ⟨i, hi, ei⟩ := List.mem_iff_getElem.mp h
  have e3 : (pr.map (fun z => fnWa K (pq K z.1 z.2.1)))[i]? = (pr.map fun z => z.2.2.val)[i]? := by rw [e2]
  rw [List.getElem?_map, List.getElem?_map, List.getElem?_eq_getElem hi, ei] at e3
  exact funDa (Option.some.inj e3) o
end
end M
set_option linter.all false
set_option Elab.async false
set_option maxRecDepth 10000
/-! MiniV: the law's end: its def, where no repr is under way. -/
namespace M
open PySem PySem.Spec PyProof.Rows L2
section
variable {P : Program} {w : World} {K : PySem.W.Frag} {mg mb : Str → Option Value} {t : Shared} {H : Hp}
/-- at the top nothing is tracked but frozen lists -/
structure Top0 (P : Program) (w : World) (K : PySem.W.Frag) (t : Shared) (H : Hp) : Prop where
  ok : HOk P w H t.heap
  only : ∀ b u, H b = some u → ∃ o xs, u = HO.frz o (.lst xs)
  apart : ∀ b u, H b = some u → K.lookup b = none
theorem Top0.dict (T : Top0 P w K t H) {b : Addr} {o : Obj} {es : Array DictEntry} {ep : Nat} (e : t.heap.get? b = some o) (d : o.data = .dict es ep) : H b = none := by
  cases z : H b with
  | none => rfl
  | some u =>
    obtain ⟨o', xs, rfl⟩ := T.only b u z
    obtain ⟨_, _, its, n, _, e2⟩ := T.ok b _ z
    rw [e] at e2
    cases e2
    cases d
theorem Top0.ns (T : Top0 P w K t H) {b : Addr} {m : Str → Option Value} (h : t.heap.Ns b m) : (hidT t.heap H).Ns b m := by
  obtain ⟨o, es, ep, e, d, r⟩ := h
  exact ⟨o, es, ep, hidT_get e (T.dict e d), d, r⟩
theorem Top0.kin (T : Top0 P w K t H) (k : K.In t.heap) : K.In (hidT t.heap H) := fun b o e => hidT_get (k b o e) (by
  cases z : H b with
  | none => rfl
  | some u =>
    rw [T.apart b u z] at e
    cases e)
theorem Top0.env (T : Top0 P w K t H) (k : K.In t.heap) (n1 : t.heap.Ns mainGlobals mg) (n2 : t.heap.Ns builtinsNs mb) (n3 : ∀ x : Str, x ≠ "__name__" → mb x = bootBuiltins x) (n4 : t.heap.NoLimit) (ng : t.gens = #[]) : Env0 P w K mg (hidT t.heap H) callerA [] t H := by
  obtain ⟨mc, q1, q2⟩ := n4
  refine { frames := rfl, mod := ⟨T.kin k, T.ns n1, ⟨mb, T.ns n2, n3⟩, ⟨mc, T.ns q1, q2⟩⟩, bs := fun _ _ e => of_hidT e, bsz := Nat.le_of_eq (hidT_size _ _), funs := trivial, frf := fun b z => ?_, hok := T.ok, bare := .of_eq ng }
  exact absurd (show b ∈ ([] : List Addr) from z) List.not_mem_nil
/-- the script's list stands in a heap of that kind -/
theorem top_of {a : Addr} {us : List Value} {ns : List Int} (h : t.heap.get? a = some { cls := .type "list", data := .seq us.toArray }) (hi : IntsAre us ns) (hl : ns.length ≤ sizeLine) (k : K.In t.heap) : ∃ H, Top0 P w K t H ∧ SqL K H a (ns.map V.int) := by
  have rv := vals_ints hi
  cases e : K.lookup a with
  | some o =>
    have := k a o e
    rw [h] at this
    cases this
    exact ⟨fun _ => none, ⟨fun _ _ z => (by cases z), fun _ _ z => (by cases z), fun _ _ z => (by cases z)⟩, .inr ⟨_, us.toArray, 0, e, rfl, rfl, rfl, by rw [List.size_toArray, hi.length]; exact hl, rv⟩⟩
  | none =>
    have key : ∀ b u, upd (fun _ => none) a (HO.frz { cls := .type "list", data := .seq us.toArray } (.lst (ns.map V.int))) b = some u → b = a ∧ u = HO.frz { cls := .type "list", data := .seq us.toArray } (.lst (ns.map V.int)) := fun b u z => by
      by_cases y : b = a
      · rw [y, upd_same] at z
        exact ⟨y, (Option.some.inj z).symm⟩
      · rw [upd_ne y] at z
        cases z
    refine ⟨_, ⟨fun b u z => ?_, fun b u z => ⟨_, _, (key b u z).2⟩, fun b u z => ?_⟩, .inl (.inr ⟨_, upd_same⟩)⟩
    · obtain ⟨rfl, rfl⟩ := key b u z
      exact ⟨h, by rw [List.length_map]; exact hl, us, 0, rv, h⟩
    · rw [(key b u z).1]
      exact e
/-- THE END -/
theorem endG {k : Nat} {f a : Addr} {fd : FuncData} {x : Str} {cl : Str → Addr → Prop} {fn : Fn} {us : List Value} {ns : List Int} (hk : K.In t.heap) (n1 : t.heap.Ns mainGlobals mg) (n2 : t.heap.Ns builtinsNs mb) (n3 : ∀ x : Str, x ≠ "__name__" → mb x = bootBuiltins x) (n4 : t.heap.NoLimit) (ng : t.gens = #[])
    (h : t.heap.get? a = some { cls := .type "list", data := .seq us.toArray }) (hi : IntsAre us ns) (hl : ns.length ≤ sizeLine) (hr : Room k callerA) (F : ∀ base : Heap, K.In base → base.Ns mainGlobals mg → FnG true P w K mg base k f fd [x] (spOf cl K fn)) (hb : ∀ (s : Shared) (u : Value), BindsTo s fd ⟨[u], []⟩ [(x, u)])
    (hm : fn.ps = [.sh]) (law : fn.sp [.scr ns] (fun r _ => r = .sh (.bl true)) fun _ => False) :
    codeAny (model P w) callerA (.call (.ref f) ⟨[.ref a], []⟩) (fun r s' => r = .ok (.ret (.bool true)) ∧ OldK t.heap s'.heap ∧ s'.os = t.os ∧ AllBare s'.gens) t := by
  obtain ⟨H, T, hS⟩ := top_of (P := P) (w := w) h hi hl hk
  have sp : spOf cl K fn [.ref a] H (fun v _ => v = V.bl true) fun _ _ _ => False := by
    refine ⟨H, [.scr ns], _, _, Same.refl H, by rw [hm]; exact .cons (.scr hS) .nil, by rw [hm]; exact List.nodup_nil, by rw [hm]; exact fun a h => (by cases h), law, fun r outs v F' H' e A rt _ => ?_, fun _ _ _ _ _ z => z.elim⟩
    subst e
    cases (show Rep cl K F' v (.bl true) from rt)
    rfl
  refine codeAny_mono ((F _ (T.kin hk) (T.ns n1)).run callerA [] t H ⟨[.ref a], []⟩ [.ref a] [.ref a] _ _ hr (fun _ => rfl) (T.env hk n1 n2 n3 n4 ng) (hb t (.ref a)) (.cons rfl .nil) sp) fun res s' z => ?_
  cases res with
  | error e =>
    obtain ⟨_, _, _, _, _, _, _, _, _, _, _, _, no⟩ := z
    exact no.elim
  | ok fl =>
    cases fl with
    | ret u =>
      obtain ⟨v, H', z1, z2, un, ok', rv, rfl⟩ := z
      obtain rfl : u = Value.bool true := rv
      refine ⟨rfl, OldK.of_keep fun b o e => ?_, z1, z2⟩
      cases q : H b with
      | none => exact un.keep b o e q (fun y => absurd (show b ∈ ([] : List Addr) from y) List.not_mem_nil) List.not_mem_nil
      | some u =>
        obtain ⟨o', xs, rfl⟩ := T.only b u q
        have e1 := (T.ok b _ q).1
        rw [e] at e1
        cases e1
        exact (ok' b _ (un.frzs b o _ q)).1
    | next => exact z.elim
    | brk => exact z.elim
    | cont => exact z.elim
/-- what the head leaves, from the law's promise -/
theorem walkG {l : PySem.W.OpenLaw} {n k : Nat} {q : Program} {loose : List Str} {XP : (Str → Option Value) → Heap → Prop} {YP : World → Heap → Prop} {d : DefRec} {x : Str} (hn : l.most = some n) (hn2 : n ≤ sizeLine) (hdf : d.params.defaults = []) (hr : Room k callerA)
    (F : ∀ (w : World) (mg : Str → Option Value) (fa : Addr) (h : Heap), YP w h → h.Ns mainGlobals mg → mg d.name = some (.ref fa) → ∃ (K : PySem.W.Frag) (fd : FuncData) (cl : Str → Addr → Prop) (fn : Fn), K.In h ∧ (∀ (s : Shared) (u : Value), BindsTo s fd ⟨[u], []⟩ [(x, u)]) ∧ fn.ps = [.sh] ∧
      (∀ ns : List Int, ns.length ≤ n → fn.sp [.scr ns] (fun r _ => r = .sh (.bl true)) fun _ => False) ∧ ∀ base : Heap, K.In base → base.Ns mainGlobals mg → FnG true l.prog w K mg base k fa fd [x] (spOf cl K fn)) :
    PySem.W.WalkO q loose XP YP l.row.toRowW d [] (fun f vs => PySem.call f vs) := by
  refine Att.attach_call hn hdf fun w s0 t mg mb fa o pm cd doc a us ns G Y ho hd hcd hmg hobj hints hlen hg => ?_
  obtain ⟨K, fd, cl, fn, kin, hb, hm, law, FF⟩ := F w mg fa _ Y G.T.g hmg
  exact endG kin G.T.g G.T.b G.T.builtins G.T.nolimit hg hobj hints (Nat.le_trans hlen hn2) hr FF hb hm (law ns hlen)
end
end M
set_option linter.all false
set_option Elab.async false
set_option maxRecDepth 100000
/-! ExA: an exception's own __init__, whose first row calls super().__init__. -/
namespace M
open PySem PySem.Spec PyProof.Rows L2

/-- the surroundings of an __init__ whose class is at hand in the cell at cc -/
def cxE (CX : CXT) (P : Program) (w : World) (K : PySem.W.Frag) (mg : Str → Option Value) (base : Heap) (N : List Str) (q : Str) (sc : Scope) (f cc : Addr) (cd : Value) (A : Around) (ou : List PySem.Env) (s : Shared) (H : Hp) (E : XK) : Cx where
  prog := P
  w := w
  K := K
  mg := mg
  base := base
  A := A.deeper (PySem.W.ksEnv q sc s.heap.objs.size f cd cc)
  N := N
  s_0 := s
  H_0 := H
  env := PySem.W.ksEnv q sc s.heap.objs.size f cd cc
  outer := ou
  stack := PySem.W.ksEnv q sc s.heap.objs.size f cd cc :: ou
  ex := []
  calm := true
  fn := fun x => !(x == ("__class__" : Str))
  pn := []
  xe := fun e s' => wpAny (model P w) (A.deeper (PySem.W.ksEnv q sc s.heap.objs.size f cd cc)) (leaving (PySem.W.ksEnv q sc s.heap.objs.size f cd cc) e) (fun _ s'' => CX ou H s E e s'') (fun e' s'' => CX ou H s E e' s'') s'
theorem cell1 {x n : Str} {c d : Addr} (h : ([(n, d)] : List (Str × Addr)).lookup x = some c) : x = n ∧ c = d := by
  rw [List.lookup_cons] at h
  cases e : x == n with
  | true =>
    rw [e] at h
    exact ⟨beq_iff_eq.mp e, (Option.some.inj h).symm⟩
  | false =>
    rw [e] at h
    cases h
theorem look_in {y : Str} {u : Value} : ∀ {l : List (Str × Value)}, (l.map (·.1)).Nodup → (y, u) ∈ l → l.lookup y = some u
  | [], _, h => by cases h
  | (z, v) :: l, nd, h => by
    rw [List.map_cons, List.nodup_cons] at nd
    rw [List.lookup_cons]
    rcases List.mem_cons.mp h with e | h2
    · cases e
      rw [beq_self_eq_true]
    · have hn : (y == z) = false := by
        cases e : y == z with
        | false => rfl
        | true =>
          have := beq_iff_eq.mp e
          subst this
          exact absurd (List.mem_map.mpr ⟨(y, u), h2, rfl⟩) nd.1
      rw [hn]
      exact look_in nd.2 h2
theorem look_zip {ps : List Str} {us : List Value} {i : Nat} {y : Str} {u : Value} (nd : ps.Nodup) (hl : ps.length = us.length) (hp : ps[i]? = some y) (hu : us[i]? = some u) : (ps.zip us).reverse.lookup y = some u := by
  refine look_in ?_ (List.mem_reverse.mpr ?_)
  · rw [List.map_reverse, List.map_fst_zip (Nat.le_of_eq hl)]
    exact (List.reverse_perm ps).nodup_iff.mpr nd
  · refine List.mem_of_getElem? (i := i) ?_
    rw [List.getElem?_zip_eq_some]
    exact ⟨hp, hu⟩

/-- what the text says of the names -/
structure ScE (N ps : List Str) (sc : Scope) : Prop where
  kind : sc.kind = .function
  co : sc.isCoroutine = false
  gen : sc.isGenerator = false
  nd : N.Nodup
  pre : N.take ps.length = ps
  par : ∀ x ∈ ps, sc.names.lookup x = some .local
  nocell : ∀ x ∈ sc.names, x.2 ≠ .cell
  free : ∀ x ∈ sc.names, x.2 = .free → x.1 = "__class__"
  sup : sc.names.lookup ("super" : Str) = some .globalImplicit
  cls : sc.names.lookup ("__class__" : Str) = some .free

section
variable {CX : CXT} {P : Program} {w : World} {K : PySem.W.Frag} {mg : Str → Option Value} {base : Heap} {N ps : List Str} {q : Str} {sc : Scope} {f cc D : Addr} {cd : Value} {A : Around} {ou : List PySem.Env} {s : Shared} {H : Hp} {E : XK} {us : List Value} {vs : List V} {h0 : Heap}
theorem inv_E {cl : Value} {cld : Option Addr} {csl : Array (Option Value)} (S : ScE N ps sc) (hcell : K.lookup cc = some ⟨cl, cld, .cell (some (.ref D)), csl⟩) (hd : A.handled = none) (e0 : Env0 P w K mg base A ou s H) (hl : vs.length = ps.length) (r : Vals vs us)
    (hn : h0.Ns s.heap.objs.size (fun x => (ps.zip us).reverse.lookup x)) (hk : ∀ b o, s.heap.get? b = some o → h0.get? b = some o) (tk : Nat) :
    Inv (cxE CX P w K mg base N q sc f cc cd A ou s H E) [] (L2.start N vs) H { s with heap := h0, toks := tk } := by
  have hpl : ps.length ≤ N.length := by
    have := congrArg List.length S.pre
    rw [List.length_take] at this
    omega
  have cb := e0.mod.kin cc _ hcell
  have c0 := e0.bs cc _ cb
  have lu := r.length
  have ndp : ps.Nodup := by
    rw [← S.pre]
    exact S.nd.sublist (List.take_sublist _ _)
  refine ⟨⟨e0.mod, S.kind, rfl, rfl, Nat.le_refl _, fun x y c h1 h2 => ?_, fun x h => ⟨cc, ?_⟩, fun x c h1 h2 => ?_, fun _ => hd, Around.frames_deeper e0.frames, .inr ⟨rfl, rfl⟩, fun b z => absurd (show b ∈ ([] : List Addr) from z) List.not_mem_nil, e0.bs, e0.bsz, fun b _ _ z => absurd (show b ∈ ([] : List Addr) from z) List.not_mem_nil,
    fun b z => absurd (show b ∈ ([] : List Addr) from z) List.not_mem_nil, e0.funs, e0.frf⟩, rfl, e0.bare, Un.kept hk, ⟨_, hn, fun i y v h1 h2 h3 => ?_⟩, fun x c h => ?_, e0.hok.fresh (Nat.le_refl _), fun x c h => ?_, fun p hp => absurd (show p ∈ ([] : List (Addr × Obj)) from hp) List.not_mem_nil, e0.hok.kept hk, ?_⟩
  · exact (cell1 h1).1.trans (cell1 h2).1.symm
  · have h : sc.names.lookup x = some .cell ∨ sc.names.lookup x = some .free := h
    have hx : x = "__class__" := by
      rcases h with h | h
      · exact absurd rfl (S.nocell _ (PySem.mem_of_lookup h))
      · exact S.free _ (PySem.mem_of_lookup h) rfl
    show ([(("__class__" : Str), cc)] : List (Str × Addr)).lookup x = some cc
    rw [hx, List.lookup_cons, beq_self_eq_true]
  · have e := (cell1 h2).1
    subst e
    exact absurd (show (!(("__class__" : Str) == ("__class__" : Str))) = true from h1) (by rw [beq_self_eq_true]; decide)
  · have hi : i < vs.length := by
      unfold L2.start at h2
      by_cases hi : i < vs.length
      · exact hi
      · rw [List.getElem?_append_right (by simpa using hi), List.getElem?_replicate] at h2
        split at h2 <;> cases h2
    have ha : vs[i]? = some v := by
      unfold L2.start at h2
      rw [List.getElem?_append_left (by simpa using hi), List.getElem?_map] at h2
      cases e : vs[i]? with
      | none => rw [e] at h2; cases h2
      | some a => rw [e] at h2; cases h2; rfl
    obtain ⟨u, hu, rv⟩ := r.get ha
    have hp : ps[i]? = some y := by
      rw [← S.pre, List.getElem?_take_of_lt (by omega)]
      exact h1
    exact ⟨u, rv, .inl ⟨S.par y (List.mem_of_getElem? hp), look_zip ndp (by omega) hp hu⟩⟩
  · obtain ⟨_, rfl⟩ := cell1 (show ([(("__class__" : Str), cc)] : List (Str × Addr)).lookup x = some c from h)
    exact ⟨_, _, hk _ _ c0.1, rfl⟩
  · obtain ⟨_, rfl⟩ := cell1 (show ([(("__class__" : Str), cc)] : List (Str × Addr)).lookup x = some c from h)
    exact c0.2
  · unfold L2.start
    show _ = N.length
    rw [List.length_append, List.length_map, List.length_replicate]
    omega
end
end M
set_option linter.all false
set_option Elab.async false
set_option maxRecDepth 100000
/-! ExB: the first row of an exception's __init__. -/
namespace M
open PySem PySem.Spec PyProof.Rows L2
def stl : Expr → Bool
  | .Starred _ _ => false
  | _ => true
theorem stl_ok {e : Expr} {es : List Expr} {env : PySem.Env} (h : stl e = true) : starEach (e :: es) env = (false, eval e env) :: starEach es env := by
  cases e <;> first | rfl | cases h
/-- o.m(e) as it is reckoned, o's own reading left as it is -/
theorem one_eval {o e : Expr} {m : Str} {apos pos : Pos} {env : PySem.Env} (hs : stl e = true) (hl : (apos.endLine == pos.line) = true) : eval (.Call (.Attribute o m apos) [e] [] pos) env = (do
      let ov ← attributeBase o m env (eval o env)
      standAt apos.atName
      let (f, first) ← holding [ov] (getMethod ov m (do return (← importBound o env).getD true))
      callWith pos f first (backTo pos (starEach [e] env)) []) := by
  rw [arm_eval_Call]
  have few : methodCallForm ([e].length + ([] : List Keyword).length) (backTo pos (starEach [e] env)) (backToKw pos (keywordEach [] env)) = true := by
    rw [stl_ok hs]
    rfl
  unfold methodCall
  rw [few]
  unfold calleeOf methodCallPos
  rw [hl]
  rfl
/-- what the head says of a class with an own __init__, and of that def -/
structure IniK (K : PySem.W.Frag) (P : Program) (C f cda cc : Addr) : Prop where
  T : OexC K C
  cde : ∃ ccl cdd vs ccs file tf, K.lookup cda = some ⟨ccl, cdd, .fields vs, ccs⟩ ∧ vs[2]? = some (.str file tf) ∧ ((P.main.file : Str) == file) = true
  cel : ∃ cl cld csl, K.lookup cc = some ⟨cl, cld, .cell (some (.ref C)), csl⟩
  clD : (PySem.W.clsIn K C).isSome = true
  mro : PySem.W.mroIn K C (.ref C) = some true
  opq : PySem.W.nsIn K cStatics "thirdparty.any" = some none
  sup : PySem.W.ks_superIn K C C "__init__" = some (some (.builtin "ValueError.__init__"))
  ofB : PySem.W.subIn K (.ref C) (.type "ValueError") = some true
section
variable {CX : CXT} {P : Program} {w : World} {K : PySem.W.Frag} {mg : Str → Option Value} {base : Heap} {N ps : List Str} {q nm : Str} {sc : Scope} {f cc C x cda : Addr} {A : Around} {ou : List PySem.Env} {s0 s : Shared} {H0 H : Hp} {E : XK} {σ : L2.St} {pa : Arguments} {bd body : List Stmt}
  {dV kV doc pm ct oc : Value} {an od : Option Addr} {osl : Array (Option Value)} {e : Expr} {p0 p1 p2 p3 p4 : Pos} {ta : TA} {Qn : Hp → Prop}
/-- the built-in __init__, bound, called -/
theorem mw_call {Q : Value → Shared → Prop} {E1 : Value → Shared → Prop} {A1 : Around} {u : Addr} {us : List Value} {X : Cx} {pins : List (Addr × Obj)} (T : OexC X.K C) (I : Inv X pins σ H s) (ea : H x = some (exo x C none)) (hu : s.heap.get? u = some (PySem.W.kxs_mw "ValueError.__init__" x)) (hl : us.length ≤ sizeLine)
    (h : ∀ s', Inv X pins σ H s' → Q .none s') : wpAny (model X.prog X.w) A1 (call (.ref u) us) Q E1 s := by
  obtain ⟨nm, qn, N1, bs, bm, sn, sub, ab, col, dd, k0, k1, k2, k3, k5, hC, hbm⟩ := T.cls
  obtain ⟨t1, ho⟩ := exo_at I.hok ea
  have hcl := I.kIn _ _ hC
  obtain ⟨hp, g, d, t, os⟩ := s
  refine wpAny_call (codeAny_of_tree ?_)
  show wpAny _ A1.in1 (callAny (.ref u) ⟨us, []⟩) _ _ _
  simp only [callAny]
  refine wpAny_bind (wpAny_load hu ?_)
  simp only [PySem.W.kxs_mw, show (Value.type "method-wrapper" == Value.type "method" || Value.type "method-wrapper" == Value.type "builtin_function_or_method" || Value.type "method-wrapper" == Value.type "method-wrapper") = true by decide, if_true]
  refine PySem.W.KFB.if_so (by decide) ?_
  refine wpAny_bind (PySem.W.check_bound_init F.excBase_ValueError.toExcCallFacts hcl ho rfl ?_)
  refine wpAny_bind (wpAny_pure (wpAny_pure ?_))
  refine ⟨plainId_quiet F.excBase_ValueError.init.plain _, codeAny_builtin F.excBase_ValueError.initEntry ?_⟩
  refine PySem.W.exc_init_tree (cls := .ref C) (t0 := t1) (dv := none) (c2 := .none) (c3 := .none) (b4 := .bool false) ho hl fun h' k hx _ => ?_
  have J := I.write (t' := t) (x := x) (e := x) (o := exo x C none) (by rw [ea]; exact True.intro) (.inl rfl) k ⟨_, hx⟩ (exo_ok hx)
  have eu : upd H x (exo x C none) = H := by
    funext b
    by_cases hb : b = x
    · rw [hb, upd_same, ea]
    · rw [upd_ne hb]
  rw [eu] at J
  exact h _ J
theorem sup_run (S : ScE N ps sc) (B : IniK K P C f cda cc) (hz : mg "super" = none) (lk : K.lookup f = some ⟨oc, od, .func (PySem.W.ksFn nm q pa bd sc dV kV doc pm an (.ref cda) ct cc), osl⟩) (htop : (P.main.scope.names.lookup ("super" : Str)).isSome = false)
    {ar : Arg} (har : (pa.posonlyargs ++ pa.args).head? = some ar) (h0 : N[0]? = some ar.arg) (hloc : sc.names.lookup ar.arg = some .local)
    (I : Inv (cxE CX P w K mg base N q sc f cc (.ref cda) A ou s0 H0 E) [] σ H s) (hx : σ[0]? = some (some (V.ref x))) (ea : H x = some (exo x C none)) (hs : stl e = true) (hl : (p2.endLine == p3.line) = true)
    (ha : PA (cxE CX P w K mg base N q sc f cc (.ref cda) A ou s0 H0 E) [e] ta) (h : ta σ H fun vs H1 => vs.length ≤ 1000 ∧ H1 x = some (exo x C none) ∧ Qn H1) :
    _root_.PySem.wpAt (model P w) (A.deeper (PySem.W.ksEnv q sc s0.heap.objs.size f (.ref cda) cc)) (.func body (PySem.W.ksEnv q sc s0.heap.objs.size f (.ref cda) cc)) (exec (.Expr (.Call (.Attribute (.Call (.Name "super" p0) [] [] p1) "__init__" p2) [e] [] p3) p4) (PySem.W.ksEnv q sc s0.heap.objs.size f (.ref cda) cc))
      (fun fl s' => fl = .next ∧ ∃ H1, Inv (cxE CX P w K mg base N q sc f cc (.ref cda) A ou s0 H0 E) [] σ H1 s' ∧ Qn H1) (cxE CX P w K mg base N q sc f cc (.ref cda) A ou s0 H0 E).xe s := by
  obtain ⟨ccl, cdd, vs, ccs, file, tf, hcode, hvs, hfile⟩ := B.cde
  obtain ⟨cl, cld, csl, hcell⟩ := B.cel
  obtain ⟨cdD, hD⟩ := Option.isSome_iff_exists.mp B.clD
  have kin : K.In s.heap := I.kIn
  obtain ⟨m, hn, hlk⟩ := I.loc
  obtain ⟨u, ru, look⟩ := hlk 0 ar.arg (V.ref x) h0 hx (.inl hloc)
  have hm : m ar.arg = some (Value.ref x) := by
    cases ru
    rcases look with ⟨_, z⟩ | ⟨z, _⟩
    · exact z
    · exact absurd (show sc.names.lookup ar.arg = some .cell ∨ sc.names.lookup ar.arg = some .free from z) (by rw [hloc]; exact fun z => by rcases z with z | z <;> cases z)
  obtain ⟨t1, ho⟩ := exo_at I.hok ea
  have hi : interactive (PySem.W.ksEnv q sc s0.heap.objs.size f (.ref cda) cc) = false := by
    unfold interactive
    show (sc.kind == ScopeKind.module && _) = false
    rw [S.kind]
    rfl
  refine PySem.ks_wpAt_Expr_any ?_ hi rfl
  refine PySem.ks_wpAt_MethodCall ?_ (one_eval hs hl)
  refine PySem.ks_wpAt_super_base (env := PySem.W.ksEnv q sc s0.heap.objs.size f (.ref cda) cc) S.sup S.cls (by decide +kernel) rfl (kin _ _ lk) rfl har rfl (kin _ _ hcode) rfl hvs hfile htop ?_
  obtain ⟨mb, b1, b2⟩ := I.mod.blt
  refine PySem.W.ks_loadName_global S.kind S.sup (Calls.loadGlobal_builtin (env := PySem.W.ksEnv q sc s0.heap.objs.size f (.ref cda) cc) (I.mod.glob.keeps I.bk) hz (b1.keeps I.bk) ((b2 "super" (by decide +kernel)).trans PyProof.Rows.Boot.«super») ⟨rfl, ?_⟩)
  refine wpAny_loadName_free S.kind S.cls rfl ⟨_, kin _ _ hcell, rfl⟩ ?_
  refine wpAny_loadName_local S.kind hloc hn hm ?_
  obtain ⟨hh, g, d, t, os⟩ := s
  obtain ⟨oD, hD1, hD2⟩ : ∃ oD, hh.get? C = some oD ∧ oD.data = .cls cdD := by
    unfold PySem.W.clsIn at hD
    split at hD
    · rename_i c' d' cd' sl ho'
      cases hD
      exact ⟨_, kin _ _ ho', rfl⟩
    · cases hD
  refine PySem.ks_wpAny_isType_cls hD1 hD2 ⟨rfl, ?_⟩
  refine PySem.ks_wpAny_call_super hD1 hD2 ho rfl (fun c' z => by cases z) (PySem.W.looks_mroIn kin B.mro) fun h1 e1 k1 => ?_
  have I1 : Inv (cxE CX P w K mg base N q sc f cc (.ref cda) A ou s0 H0 E) [] σ H ⟨h1, g, d, t, os⟩ := I.kept (h' := h1) (t' := t) k1
  have hsup := B.sup
  unfold PySem.W.ks_superIn at hsup
  rw [hD] at hsup
  have hI : PySem.W.Looks (model P w) h1 (isInstance (.ref x) (.type "ValueError")) true :=
    PySem.W.Looks.andThen (a := .ref C) (fun A Q E s k qq => wpAny_typeOf_ref (k _ _ (k1 _ _ ho)) qq) (PySem.W.looks_subIn (kin.keeps k1) B.ofB)
  refine PySem.W.kxs_getMethod PySem.W.kxs_ValueError e1 (PySem.W.looks_opaque (kin.keeps k1) B.opq) (l₀ := cdD.mro) (fun A Q E s k qq => wpAny_bind ((PySem.W.looks_clsIn (kin.keeps k1) hD) A _ E s k (wpAny_pure qq))) rfl (kin.keeps k1) hsup hI (fun z => ?_) (by decide +kernel) ?_
  · subst z
    rw [ho] at hD1
    cases hD1
    cases hD2
  · have hu : (h1.push (PySem.W.kxs_mw "ValueError.__init__" x)).get? h1.objs.size = some (PySem.W.kxs_mw "ValueError.__init__" x) := Heap.get?_push_at rfl rfl
    have fresh : H h1.objs.size = none := I1.hok.fresh (Nat.le_refl _)
    have I2 : Inv (cxE CX P w K mg base N q sc f cc (.ref cda) A ou s0 H0 E) [] σ H ⟨h1.push (PySem.W.kxs_mw "ValueError.__init__" x), g, d, t + 1, os⟩ := I1.kept (h' := h1.push (PySem.W.kxs_mw "ValueError.__init__" x)) (t' := t + 1) fun b o z => Heap.get?_push_of_some _ z
    have I3 : Inv (cxE CX P w K mg base N q sc f cc (.ref cda) A ou s0 H0 E) [(h1.objs.size, PySem.W.kxs_mw "ValueError.__init__" x)] σ H ⟨h1.push (PySem.W.kxs_mw "ValueError.__init__" x), g, d, t + 1, os⟩ := I2.pins_of fun p hp => by
      rw [List.mem_singleton] at hp
      subst hp
      exact ⟨hu, fresh, Ne.symm (Nat.ne_of_lt I1.lt), I1.nofs (Nat.le_refl _), fun v z => by cases z⟩
    show wpAny _ _ (callWith p3 (.ref h1.objs.size) [] (backTo p3 (starEach [e] (PySem.W.ksEnv q sc s0.heap.objs.size f (.ref cda) cc))) []) _ _ _
    have he := stl_ok (es := []) (env := PySem.W.ksEnv q sc s0.heap.objs.size f (.ref cda) cc) hs
    have run := ha.run p3 _ _ σ H _ I3 h
    refine PySem.W.kxs_callWith (i := "ValueError.__init__") (x := x) (by rw [he]; rfl) ?_
    have run' : wpAny (model P w) (A.deeper (PySem.W.ksEnv q sc s0.heap.objs.size f (.ref cda) cc)) (spliced (backTo p3 (starEach [e] (PySem.W.ksEnv q sc s0.heap.objs.size f (.ref cda) cc)))) _ _ _ := run
    rw [he] at run' ⊢
    refine Calls.evalArgs_plain (thn run' fun us s1 hh => ?_)
    obtain ⟨vs1, H1, J, rv, hz1, ea1, qn⟩ := hh
    have hu1 : s1.heap.get? h1.objs.size = some (PySem.W.kxs_mw "ValueError.__init__" x) := (J.pin (h1.objs.size, PySem.W.kxs_mw "ValueError.__init__" x) (List.mem_append_right _ (List.mem_singleton.mpr rfl))).1
    refine ⟨hu1, ?_⟩
    refine mw_call B.T J ea1 hu1 (show us.length ≤ sizeLine by rw [← rv.length, sizeLine_eq]; omega) fun s2 J2 => ⟨rfl, H1, ?_, qn⟩
    exact J2.pins_of fun p hp => absurd hp List.not_mem_nil
end
end M
set_option linter.all false
set_option Elab.async false
set_option maxRecDepth 100000
/-! ExC: the promise of an exception's __init__ with one field. -/
namespace M
open PySem PySem.Spec PyProof.Rows L2
/-- a def that names its class -/
structure FunX (K : PySem.W.Frag) (P : Program) (nm q : Str) (pa : Arguments) (bd : List Stmt) (sc : Scope) (C f : Addr) (fd : FuncData) : Prop where
  ex : ∃ (oc : Value) (od : Option Addr) (kV doc pm : Value) (an : Option Addr) (cda cc : Addr) (ct : Value) (osl : Array (Option Value)),
    fd = PySem.W.ksFn nm q pa bd sc .none kV doc pm an (.ref cda) ct cc ∧ K.lookup f = some ⟨oc, od, .func fd, osl⟩ ∧ PySem.W.codeIn K (.ref cda) q = true ∧ IniK K P C f cda cc
/-- a part of the text: a constant, or the parameter -/
def partC (N : List Str) (sc : Scope) : Expr → Bool
  | .Constant (.str m) _ _ => decide (m.length ≤ 200)
  | .FormattedValue (.Name y _) c f _ => decide (c = -1) && f.isNone && decide (N[1]? = some y) && decide (sc.names.lookup y = some .local) && okn y
  | _ => false
def iniC (N : List Str) (sc : Scope) (fld : Str) : List Stmt → Bool
  | [.Expr (.Call (.Attribute (.Call (.Name s _) [] [] _) m p2) [.JoinedStr (v1 :: v2 :: r) _] [] p3) _, .Assign [.Attribute (.Name a _) h _] (.Name b _) _] =>
    decide (s = "super") && decide (m = "__init__") && (p2.endLine == p3.line) && partC N sc v1 && partC N sc v2 && r.all (partC N sc) && decide (r.length ≤ 8) && decide (N[0]? = some a) && decide (h = fld) && decide (N[1]? = some b) && decide (sc.names.lookup a = some .local) && decide (sc.names.lookup b = some .local) && okn a && okn b
  | _ => false
def scEC (N ps : List Str) (sc : Scope) : Bool := decide (sc.kind = .function) && !sc.isCoroutine && !sc.isGenerator && decide N.Nodup && decide (N.take ps.length = ps) && ps.all (fun x => decide (sc.names.lookup x = some .local)) && sc.names.all (fun x => decide (x.2 ≠ .cell)) &&
  sc.names.all (fun x => decide (x.2 ≠ .free) || decide (x.1 = "__class__")) && decide (sc.names.lookup ("super" : Str) = some .globalImplicit) && decide (sc.names.lookup ("__class__" : Str) = some .free)
theorem scE_by {N ps : List Str} {sc : Scope} (h : scEC N ps sc = true) : ScE N ps sc := by
  unfold scEC at h
  simp only [Bool.and_eq_true, decide_eq_true_eq, Bool.not_eq_true', List.all_eq_true, Bool.or_eq_true] at h
  obtain ⟨⟨⟨⟨⟨⟨⟨⟨⟨h1, h2⟩, h3⟩, h4⟩, h5⟩, h6⟩, h7⟩, h8⟩, h9⟩, h10⟩ := h
  refine ⟨h1, h2, h3, h4, h5, h6, h7, fun x hx e => ?_, h9, h10⟩
  rcases h8 x hx with z | z
  · exact absurd e z
  · exact z
/-- what may stand in the text -/
def fitV (v : V) : Prop := (∃ i : Int, v = .int i ∧ i.natAbs.log2 < 1900) ∨ ∃ t : Str, v = .str t ∧ t.length ≤ 2000
section
variable {X : Cx} {σ : L2.St} {y : V}
theorem txt_len {i : Int} (h : i.natAbs.log2 < 1900) : (toString i : Str).length ≤ 2000 := by
  have e := int_text_length_le (k := 1900) (by decide) h
  show (Str.ofString (toString i)).length ≤ 2000
  rw [PySem.ofString_length]
  omega
theorem fit_len {v : V} (h : fitV v) : ∀ (te : TE) (σ : L2.St) (H : Hp) (Q : VK), te = tVar 1 → σ[1]? = some (some v) → (∀ z : Str, z.length ≤ 2000 → Q (.str z) H) → tFmt te σ H Q := by
  intro te σ H Q e hs q
  subst e
  refine ⟨v, hs, ?_⟩
  rcases h with ⟨i, rfl, hi⟩ | ⟨t, rfl, ht⟩
  · exact .inr ⟨i, rfl, by omega, q _ (txt_len hi)⟩
  · exact .inl ⟨t, rfl, by rw [sizeLine_eq]; omega, q _ ht⟩
theorem part_run {N : List Str} {sc : Scope} (eN : X.N = N) (eS : X.env.scope = sc) (hv : fitV y) (hs : σ[1]? = some (some y)) : ∀ (es : List Expr), es.all (partC N sc) = true → ∃ ts, PJ X es ts ∧ ∀ (acc : Str) (H : Hp) (Q : Str → Hp → Prop), acc.length + es.length * 2000 ≤ sizeLine → (∀ z, Q z H) → tJs ts acc σ H Q
  | [], _ => ⟨[], .nil, fun acc H Q _ q => q acc⟩
  | e :: es, h => by
    rw [List.all_cons, Bool.and_eq_true] at h
    obtain ⟨ts, hp, run⟩ := part_run eN eS hv hs es h.2
    have h1 := h.1
    unfold partC at h1
    split at h1
    · rename_i m j p
      have hm := of_decide_eq_true h1
      refine ⟨_, .cons pe_str hp, fun acc H Q hl q => ⟨m, rfl, ?_, run _ H Q ?_ q⟩⟩
      · rw [Str.length_append]
        rw [List.length_cons] at hl
        omega
      · rw [Str.length_append]
        rw [List.length_cons] at hl
        omega
    · rename_i y' p' c f p
      simp only [Bool.and_eq_true, decide_eq_true_eq] at h1
      obtain ⟨⟨⟨⟨rfl, h2⟩, h3⟩, h4⟩, h5⟩ := h1
      cases f with
      | some _ => cases h2
      | none =>
        refine ⟨_, .cons (pe_fmt (pe_var (i := 1) (by rw [eN]; exact h3) (.inl (by rw [eS]; exact h4)) (okn1 h5) (okn2 h5))) hp, fun acc H Q hl q => ?_⟩
        refine fit_len hv _ σ H _ rfl hs fun z hz => ⟨z, rfl, ?_, run _ H Q ?_ q⟩
        · rw [Str.length_append]
          rw [List.length_cons] at hl
          omega
        · rw [Str.length_append]
          rw [List.length_cons] at hl
          omega
    · cases h1
end
/-- the promise: self.fld = y -/
def spX (K : PySem.W.Frag) (C : Addr) (fld : Str) : Sp := fun vs H Q _ => ∃ a y, vs = [V.ref a, y] ∧ H a = some (exo a C none) ∧ fitV y ∧ ∀ dx, H dx = none → dx ≠ a → Q .non (upd (upd H dx (exd dx [(fld, y)])) a (exo a C (some dx)))
theorem fnX_of {P : Program} {w : World} {K : PySem.W.Frag} {mg : Str → Option Value} {base : Heap} {k : Nat} {nm q fld : Str} {pa : Arguments} {bd : List Stmt} {sc : Scope} {C f : Addr} {fd : FuncData} {N ps : List Str} (F : FunX K P nm q pa bd sc C f fd) (hs : scEC N ps sc = true) (hl : ps.length = 2) (hb : iniC N sc fld bd = true)
    (har : ((pa.posonlyargs ++ pa.args).head?.map fun z => z.arg) = N[0]?) (hz : mg "super" = none) (htop : (P.main.scope.names.lookup ("super" : Str)).isSome = false) (hno : PySem.W.findIn K (.ref C) fld = some none) : FnOk P w K mg base (L2.CX P w) (k + 1) f fd ps (spX K C fld) := by
  obtain ⟨oc, od, kV, doc, pm, an, cda, cc, ct, osl, rfl, lk, hcd, B⟩ := F.ex
  have S := scE_by hs
  obtain ⟨cl', cld, csl, hcell⟩ := B.cel
  refine ⟨fun vs H Q E h => ?_, fun A ou s H ar us vs Q E hr e0 hbi r hsp => ?_⟩
  · obtain ⟨a, y, rfl, _⟩ := h
    exact hl.symm
  obtain ⟨a, y, rfl, ea, fy, fin⟩ := hsp
  unfold iniC at hb
  split at hb
  · rename_i sn p0 p1 m p2 v1 v2 rr pj p3 p4 a0 pa0 h pa1 b pb pas
    simp only [Bool.and_eq_true, decide_eq_true_eq] at hb
    obtain ⟨⟨⟨⟨⟨⟨⟨⟨⟨⟨⟨⟨⟨rfl, rfl⟩, b1⟩, b2⟩, b3⟩, b4⟩, b5⟩, b6⟩, rfl⟩, b7⟩, b8⟩, b9⟩, b10⟩, b11⟩ := hb
    have kx : K.In s.heap := e0.mod.kin.keeps fun b o z => (e0.bs b o z).1
    have nl : s.heap.NoLimit := e0.mod.nolimit.keeps fun b o z => (e0.bs b o z).1
    have lu := r.length
    refine PySem.ks_codeAny_call_defAt (binds := ps.zip us) hr.depth (kx _ _ lk) rfl nl (PySem.W.codeRec_of kx hcd) rfl hbi S.nocell (fun x hx => S.par x.1 (List.of_mem_zip hx).1) (fun h0 hn hk => ?_) S.co S.gen S.kind
    have I := inv_E (CX := L2.CX P w) (w := w) (mg := mg) (N := N) (q := q) (f := f) (cd := .ref cda) (E := E) S hcell hr.hd e0 (by rw [hl]; rfl) r hn hk (s.toks + (ps.zip us).length)
    have g0 : (L2.start N [V.ref a, y])[0]? = some (some (V.ref a)) := rfl
    have g1 : (L2.start N [V.ref a, y])[1]? = some (some y) := rfl
    obtain ⟨ts, hts, run⟩ := part_run (X := cxE (L2.CX P w) P w K mg base N q sc f cc (.ref cda) A ou s H E) (N := N) (sc := sc) rfl rfl fy g1 (v1 :: v2 :: rr) (by rw [List.all_cons, List.all_cons, b2, b3, b4] <;> rfl)
    have hsz : Str.empty.length + (v1 :: v2 :: rr).length * 2000 ≤ sizeLine := by
      rw [List.length_cons, List.length_cons, sizeLine_eq]
      have : Str.empty.length = 0 := rfl
      omega
    obtain ⟨ar0, har0⟩ : ∃ ar0, (pa.posonlyargs ++ pa.args).head? = some ar0 ∧ ar0.arg = a0 := by
      rw [b6] at har
      exact Option.map_eq_some_iff.mp har
    have sr := sup_run (CX := L2.CX P w) (w := w) (E := E) (p0 := p0) (p1 := p1) (p2 := p2) (p3 := p3) (p4 := p4) (e := .JoinedStr (v1 :: v2 :: rr) pj) (body := [.Expr (.Call (.Attribute (.Call (.Name "super" p0) [] [] p1) "__init__" p2) [.JoinedStr (v1 :: v2 :: rr) pj] [] p3) p4, .Assign [.Attribute (.Name a0 pa0) h pa1] (.Name b pb) pas]) (Qn := fun H1 => H1 = H) S B hz lk htop har0.1 (by rw [har0.2]; exact b6) (by rw [har0.2]; exact b8) I g0 ea rfl b1 (pa_cons (pe_joined (pos := pj) hts) pa_nil rfl) (run _ H _ hsz fun z => ⟨by show 1 ≤ 1000; omega, ea, rfl⟩)
    refine PySem.ks_wpAt_execs_cons (ks_wpAt_mono sr (fun fl s1 hh => ?_) fun e s1 hh => hh)
    obtain ⟨rfl, H1, I1, rfl⟩ := hh
    refine wpAt_of_wpAny ?_
    have ss := pss_cons (X := cxE (L2.CX P w) P w K mg base N q sc f cc (.ref cda) A ou s H1 E) (ps_ost (f := h) (pos := pas) (p' := pa1) (pe_var (pos := pa0) (i := 0) b6 (.inl b8) (okn1 b10) (okn2 b10)) (pe_var (pos := pb) (i := 1) b7 (.inl b9) (okn1 b11) (okn2 b11))) pss_nil
    refine wpAny_mono (ss.run [] s1 _ H1 { nx := fun _ H' => Q .non H', rt := Q } I1 ⟨y, g1, V.ref a, g0, a, C, rfl, B.T, hno, .inl ⟨ea, fun dx hd hn => fin dx hd hn⟩⟩) (fun fl s2 z => ?_) fun e s2 z => z
    cases fl with
    | ret u =>
      obtain ⟨v, σ', H', J, rv, z⟩ := z
      exact ⟨v, H', J.os, J.bare, J.base, J.hok, rv, z⟩
    | next =>
      obtain ⟨σ', H', J, z⟩ := z
      exact ⟨V.non, H', J.os, J.bare, J.base, J.hok, rfl, z⟩
    | brk =>
      obtain ⟨_, _, _, z⟩ := z
      exact z.elim
    | cont =>
      obtain ⟨_, _, _, z⟩ := z
      exact z.elim
  · cases hb
end M
set_option linter.all false
set_option Elab.async false
set_option maxRecDepth 10000
/-! ExD: exceptions with one field, at the module's top. -/
namespace M
open PySem PySem.Spec PyProof.Rows L2 C8
def fitD : D → Bool
  | .int i => decide (i.natAbs.log2 < 1900)
  | .str t => decide (t.length ≤ 2000)
  | _ => false
def fxOne (fld : Str) : List D → Option (List (Str × D))
  | [d] => if fitD d = true then some [(fld, d)] else none
  | _ => none
theorem fxOne_at {fld : Str} {d : D} (h : fitD d = true) : fxOne fld [d] = some [(fld, d)] := if_pos h
theorem mkX_one {cl : Str → Addr → Prop} {K : PySem.W.Frag} {C : Addr} {fld : Str} : MkX cl K (fxOne fld) C (spX K C fld) := by
  intro ds es c F ρ σ vs H a Q e R rp ha q
  cases rp with
  | nil => cases e
  | @cons v d vs' ds' r rr =>
    cases rr with
    | cons _ _ => cases e
    | nil =>
      have e : (if fitD d = true then some [(fld, d)] else none) = some es := e
      split at e
      · rename_i hf
        cases e
        have fv : fitV v := by
          cases r with
          | int i => exact .inl ⟨i, rfl, of_decide_eq_true hf⟩
          | str t => exact .inr ⟨t, rfl, of_decide_eq_true hf⟩
          | _ => cases hf
        refine ⟨a, v, rfl, upd_same, fv, fun dx hd hn => ⟨rfl, dx, [(fld, v)], upd_same, ?_, ?_, ?_⟩⟩
        · rw [upd_ne hn, upd_same]
        · rw [upd_ne hn] at hd
          exact hd
        · have hd0 : H dx = none := by
            rw [upd_ne hn] at hd
            exact hd
          have eu : upd (del (upd (upd (upd H a (exo a C none)) dx (exd dx [(fld, v)])) a (exo a C (some dx))) a) dx (HO.xd [(fld, v)]) = upd H dx (HO.xd [(fld, v)]) := by
            funext b
            by_cases hb : b = dx
            · rw [hb, upd_same, upd_same]
            · rw [upd_ne hb, upd_ne hb]
              by_cases h2 : b = a
              · rw [h2, del_same, ha]
              · rw [del_ne h2, upd_ne h2, upd_ne hb, upd_ne h2]
          rw [eu]
          refine q F _ dx [(fld, v)] (Same.refl F) (R.alloc hd0) upd_same fun f e' hl => ?_
          rw [List.lookup_cons] at hl ⊢
          cases b : f == fld with
          | true =>
            rw [b] at hl
            cases hl
            exact ⟨v, rfl, r⟩
          | false =>
            rw [b] at hl
            cases hl
      · cases e
section
variable {P : Program} {w : World} {K : PySem.W.Frag} {mg : Str → Option Value} {base : Heap} {Γ : Tb} {cl : Str → Addr → Prop} {g : Bool} {j k : Nat}
def Tb.addE (Γ : Tb) (c : Str) (fx : List D → Option (List (Str × D))) : Tb := { Γ with exn := fun d => if d = c then some fx else Γ.exn d }
def Tb.setX (Γ : Tb) (t : Str → Str → Option Bool) (fl : Str → Str → Bool) : Tb := { Γ with isx := t, xfl := fl }
theorem Sta.addE {c : Str} {fx : List D → Option (List (Str × D))} {fI : Addr} {fd : FuncData} {ps : List Str} {sp : Sp} (S : Sta P w K mg base Γ cl g k) (hm : mg c = some (.ref (He.ga K c))) (T : OexC K (He.ga K c)) (hi : PySem.W.findIn K (.ref (He.ga K c)) "__init__" = some (some (.ref fI)))
    (ht : PySem.W.typeIn K (.ref fI) = some (.type "function")) (F : FnOk P w K mg base (L2.CX P w) k fI fd ps sp) (hb : Binds K fd ps []) (mk : MkX cl K fx (He.ga K c) sp) : Sta P w K mg base (Γ.addE c fx) cl g k := by
  refine { S with ex := fun c' fx' e => ?_ }
  have e : (if c' = c then some fx else Γ.exn c') = some fx' := e
  split at e
  · rename_i ey
    cases e
    subst ey
    exact ⟨hm, T, fI, fd, ps, sp, hi, ht, F, hb, mk⟩
  · exact S.ex c' fx' e
theorem Sta.setX {t : Str → Str → Option Bool} {fl : Str → Str → Bool} (S : Sta P w K mg base Γ cl g k)
    (h1 : ∀ c d b, t c d = some b → mg d = some (.ref (He.ga K d)) ∧ PySem.W.kitOne K (.ref (He.ga K c)) (.ref (He.ga K d)) = some b ∧ PySem.W.exmOne K (.ref (He.ga K c)) (.ref (He.ga K d)) = some b ∧ XiC K (He.ga K c))
    (h2 : ∀ c f, fl c f = true → XfC K (He.ga K c) ∧ PySem.W.findIn K (.ref (He.ga K c)) f = some none) : Sta P w K mg base (Γ.setX t fl) cl g k := { S with xi := h1, xf := h2 }
end
end M
set_option linter.all false
set_option Elab.async false
set_option maxRecDepth 10000
/-! ExU: the head's facts on exceptions. -/
namespace M
open PySem PySem.Spec PyProof.Rows L2
inductive Fx where
  | oex (x : Str) | att (x f : Str) | xis (x : Str) | kit (x y : Str) (b : Bool) | exm (x y : Str) (b : Bool)
def oexB (K : PySem.W.Frag) (C : Addr) : Bool := (match K.lookup C with
  | some ⟨.type "type", _, .cls cd, sl⟩ => (match cd.mro, sl.toList with
    | .ref C' :: bm, [_, _, _, _, some (.builtin n), _] => C' == C && n == "ValueError.__new__" && !cd.hasDel && cd.hasDict && PySem.HandSPX.refsVE bm
    | _, _ => false)
  | _ => false) && He.eqO (PySem.W.findIn K (.ref C) "__setattr__") (some (some (.builtin "object.__setattr__"))) && decide (PySem.W.subIn K (.ref C) (.type "BaseException") = some true) && decide (PySem.W.typeIn K (.ref C) = some (.type "type")) && PySem.W.keepIn K (.ref C)
theorem oexB_ok {K : PySem.W.Frag} {C : Addr} (h : oexB K C = true) : OexC K C := by
  unfold oexB at h
  simp only [Bool.and_eq_true, decide_eq_true_eq] at h
  obtain ⟨⟨⟨⟨q, h1⟩, h2⟩, h3⟩, h4⟩ := h
  refine ⟨?_, He.eqO_ok h1, h2, h3, h4⟩
  split at q
  · rename_i dd cd sl ho
    split at q
    · rename_i C' bm k0 k1 k2 k3 n k5 hm hs
      simp only [Bool.and_eq_true, beq_iff_eq, Bool.not_eq_true'] at q
      obtain ⟨⟨⟨⟨rfl, rfl⟩, hdel⟩, hdc⟩, hr⟩ := q
      obtain ⟨nm, bs, mro, ns, qn, hd, sn, sub, ab, col, del⟩ := cd
      dsimp only at hm hdel hdc
      subst hm hdel hdc
      have hsl : sl = #[k0, k1, k2, k3, some (.builtin "ValueError.__new__"), k5] := by
        obtain ⟨l⟩ := sl
        simp only at hs
        rw [hs]
      subst hsl
      exact ⟨nm, qn, ns, bs, bm, sn, sub, ab, col, dd, k0, k1, k2, k3, k5, ho, hr⟩
    · cases q
  · cases q
def xisB (K : PySem.W.Frag) (C : Addr) : Bool := (PySem.W.clsIn K C).isSome && He.eqO (PySem.W.findIn K (.ref C) "__getattribute__") (some (some (.builtin "BaseException.__getattribute__"))) && He.eqO (PySem.W.findIn K (.ref C) "__getattr__") (some none) && decide (PySem.W.subIn K (.ref C) (.type "BaseException") = some true) &&
  PySem.W.hasDictIn K C && He.eqO (PySem.W.findIn K (.ref C) "__class__") (some (some (.builtin "object.__class__"))) && He.eqO (PySem.W.specialIn K (.builtin "object.__class__") "__get__") (some (some (.builtin "getset_descriptor.__get__"))) &&
  decide (PySem.W.takesIn K (.builtin "object.__class__") = some true) && decide (PySem.W.mroIn K C (.type "object") = some true)
theorem xisB_ok {K : PySem.W.Frag} {C : Addr} (h : xisB K C = true) : XiC K C := by
  unfold xisB at h
  simp only [Bool.and_eq_true, decide_eq_true_eq] at h
  obtain ⟨⟨⟨⟨⟨⟨⟨⟨h1, h2⟩, h3⟩, h4⟩, h5⟩, h6⟩, h7⟩, h8⟩, h9⟩ := h
  exact ⟨h1, He.eqO_ok h2, He.eqO_ok h3, h4, h5, He.eqO_ok h6, He.eqO_ok h7, h8, h9⟩
def Fx.ok (K : PySem.W.Frag) : Fx → Bool
  | .oex x => oexB K (He.ga K x)
  | .att x f => xfB K (He.ga K x) && He.eqO (PySem.W.findIn K (.ref (He.ga K x)) f) (some none)
  | .xis x => xisB K (He.ga K x)
  | .kit x y b => decide (PySem.W.kitOne K (.ref (He.ga K x)) (.ref (He.ga K y)) = some b)
  | .exm x y b => decide (PySem.W.exmOne K (.ref (He.ga K x)) (.ref (He.ga K y)) = some b)
/-- an exception's __init__ -/
structure DefX where
  cls : Str
  nm : Str
  q : Str
  pa : Arguments
  bd : List Stmt
  sc : Scope
def DefX.val (d : DefX) : He.FnW := some (d.nm, d.q, d.pa, .stmts d.bd, d.sc, mainGlobals, [(("__class__" : Str), 0)], builtinsNs)
def fnX' (K : PySem.W.Frag) (a : Addr) : He.FnW := match K.lookup a with
  | some ⟨_, _, .func z, _⟩ => some (z.name, z.qualname, z.params, z.body, z.scope, z.globals, z.closure.map fun c => (c.1, 0), z.builtins)
  | _ => none
def iniA (K : PySem.W.Frag) (x : Str) : Addr := He.ma K (He.ga K x) "__init__"
def strB (v : Option Value) (file : Str) : Bool := match v with
  | some (.str fl _) => file == fl
  | _ => false
def fileB (K : PySem.W.Frag) (cda : Addr) (file : Str) : Bool := match K.lookup cda with
  | some ⟨_, _, .fields vs, _⟩ => strB vs[2]? file
  | _ => false
def cellB (K : PySem.W.Frag) (cc C : Addr) : Bool := match K.lookup cc with
  | some ⟨_, _, .cell (some (.ref D)), _⟩ => decide (D = C)
  | _ => false
def okX (file : Str) (K : PySem.W.Frag) (d : DefX) : Bool := He.eqO (PySem.W.findIn K (.ref (He.ga K d.cls)) "__init__") (some (some (.ref (iniA K d.cls)))) && PySem.W.isFn K (.ref (iniA K d.cls)) && (match K.lookup (iniA K d.cls) with
  | some ⟨_, _, .func z, _⟩ => (match z.code, z.closure with
    | .ref cda, [(_, cc)] => He.dflB K z.defaults [] && PySem.W.codeIn K z.code d.q && fileB K cda file && cellB K cc (He.ga K d.cls)
    | _, _ => false)
  | _ => false) && (PySem.W.clsIn K (He.ga K d.cls)).isSome && decide (PySem.W.mroIn K (He.ga K d.cls) (.ref (He.ga K d.cls)) = some true) && He.eqO (PySem.W.nsIn K cStatics "thirdparty.any") (some none) &&
  He.eqO (PySem.W.ks_superIn K (He.ga K d.cls) (He.ga K d.cls) "__init__") (some (some (.builtin "ValueError.__init__"))) && decide (PySem.W.subIn K (.ref (He.ga K d.cls)) (.type "ValueError") = some true)
theorem funX_of {K : PySem.W.Frag} {P : Program} {d : DefX} (T : OexC K (He.ga K d.cls)) (e : fnX' K (iniA K d.cls) = d.val) (h : okX P.main.file K d = true) :
    PySem.W.findIn K (.ref (He.ga K d.cls)) "__init__" = some (some (.ref (iniA K d.cls))) ∧ PySem.W.typeIn K (.ref (iniA K d.cls)) = some (.type "function") ∧ ∃ fd, FunX K P d.nm d.q d.pa d.bd d.sc (He.ga K d.cls) (iniA K d.cls) fd := by
  unfold okX at h
  simp only [Bool.and_eq_true, decide_eq_true_eq] at h
  obtain ⟨⟨⟨⟨⟨⟨⟨h1, h2⟩, h3⟩, h4⟩, h5⟩, h6⟩, h7⟩, h8⟩ := h
  refine ⟨He.eqO_ok h1, beq_iff_eq.mp h2, ?_⟩
  unfold fnX' at e
  cases lk : K.lookup (iniA K d.cls) with
  | none =>
    rw [lk] at h3
    cases h3
  | some o =>
    obtain ⟨x1, x2, x3, x4⟩ := o
    rw [lk] at h3 e
    cases x3 with
    | func fd =>
      obtain ⟨m1, m2, m3, m4, m5, m6, m7, m8, m9, m10, m11, m12, m13, m14, m15⟩ := fd
      dsimp only at h3 e
      have e2 : (some (m1, m2, m3, m4, m5, m6, m7.map (fun c => (c.1, 0)), m15) : He.FnW) = some (d.nm, d.q, d.pa, .stmts d.bd, d.sc, mainGlobals, [(("__class__" : Str), 0)], builtinsNs) := e
      simp only [Option.some.injEq, Prod.mk.injEq] at e2
      obtain ⟨y1, y2, y3, y4, y5, y6, y7, y8⟩ := e2
      subst y1 y2 y3 y4 y5 y6 y8
      split at h3
      · rename_i cda n0 cc
        have hn : n0 = "__class__" := by
          have := congrArg (fun l : List (Str × Addr) => l.map (·.1)) y7
          simpa using this
        subst hn
        simp only [Bool.and_eq_true] at h3
        obtain ⟨⟨⟨k0, k1⟩, k2⟩, k3⟩ := h3
        have e8 : m8 = .none := by
          rcases He.dflB_ok k0 with ⟨_, e⟩ | ⟨e, _⟩
          · exact e
          · exact absurd rfl e
        subst e8
        refine ⟨_, ⟨x1, x2, m9, m10, m11, m12, cda, cc, m14, x4, rfl, lk, k1, T, ?_, ?_, h4, h5, He.eqO_ok h6, He.eqO_ok h7, h8⟩⟩
        · unfold fileB at k2
          split at k2
          · rename_i vs _ hl
            unfold strB at k2
            split at k2
            · rename_i fl t hv
              exact ⟨_, _, vs, _, fl, t, hl, hv, k2⟩
            · cases k2
          · cases k2
        · unfold cellB at k3
          split at k3
          · rename_i D _ hl
            rw [of_decide_eq_true k3] at hl
            exact ⟨_, _, _, hl⟩
          · cases k3
      · cases h3
    | _ => cases h3
/-! ### the hook -/
abbrev AlX : Type := AlM × (Bool × List He.FnW)
def obsX (file : Str) (fa : List He.Fa) (fn : List He.DefD) (fb : List Fb) (pr : List (Str × Str × He.DefD)) (fx : List Fx) (xd : List DefX) (K : PySem.W.Frag) : AlX := (obsM fa fn fb pr K, (fx.all (fun z => z.ok K) && xd.all fun z => okX file K z, xd.map fun z => fnX' K (iniA K z.cls)))
def valX (fn : List He.DefD) (pr : List (Str × Str × He.DefD)) (xd : List DefX) : AlX := (valM fn pr, (true, xd.map DefX.val))
def SaysX (file : Str) (fa : List He.Fa) (fn : List He.DefD) (fb : List Fb) (pr : List (Str × Str × He.DefD)) (fx : List Fx) (xd : List DefX) (K : PySem.W.Frag) : Prop := obsX file fa fn fb pr fx xd K = valX fn pr xd
def obsXG (n : Nat) (file : Str) (fa : List He.Fa) (fn : List He.DefD) (fb : List Fb) (pr : List (Str × Str × He.DefD)) (fx : List Fx) (xd : List DefX) (g : Addr → Option Obj) : AlX := obsX file fa fn fb pr fx xd (He.frG g (cStatics :: He.asD g n))
def hookX (n : Nat) (file : Str) (fa : List He.Fa) (fn : List He.DefD) (fb : List Fb) (pr : List (Str × Str × He.DefD)) (fx : List Fx) (xd : List DefX) : PySem.W.Hook where
  α := AlX
  obs := fun s => obsXG n file fa fn fb pr fx xd s.heap.get?
  val := fun _ => valX fn pr xd
  says := fun _ h => ∃ K : PySem.W.Frag, K.In h ∧ SaysX file fa fn fb pr fx xd K
  of := fun _ _ e => ⟨_, He.frG_in, e⟩
  keeps := fun _ _ _ ⟨K, i, z⟩ k => ⟨K, PySem.W.Frag.In.keeps i k, z⟩
theorem obsXG_eq {n : Nat} {file : Str} {fa : List He.Fa} {fn : List He.DefD} {fb : List Fb} {pr : List (Str × Str × He.DefD)} {fx : List Fx} {xd : List DefX} {g : Addr → Option Obj} {s : Shared} (h : ∀ a, g a = s.heap.get? a) : obsXG n file fa fn fb pr fx xd g = (hookX n file fa fn fb pr fx xd).obs s := by
  have e : g = s.heap.get? := funext h
  subst e
  rfl
section
variable {file : Str} {fa : List He.Fa} {fn : List He.DefD} {fb : List Fb} {pr : List (Str × Str × He.DefD)} {fx : List Fx} {xd : List DefX} {K : PySem.W.Frag}
theorem SaysX.m (c : SaysX file fa fn fb pr fx xd K) : SaysM fa fn fb pr K := congrArg (fun z : AlX => z.1) c
theorem SaysX.x (c : SaysX file fa fn fb pr fx xd K) {z : Fx} (h : z ∈ fx) : z.ok K = true := by
  have e := congrArg (fun z : AlX => z.2.1) c
  exact List.all_eq_true.mp (Bool.and_eq_true_iff.mp (show (fx.all (fun z => z.ok K) && xd.all fun z => okX file K z) = true from e)).1 z h
theorem SaysX.d {P : Program} (c : SaysX P.main.file fa fn fb pr fx xd K) {d : DefX} (h : d ∈ xd) (hx : Fx.oex d.cls ∈ fx) :
    PySem.W.findIn K (.ref (He.ga K d.cls)) "__init__" = some (some (.ref (iniA K d.cls))) ∧ PySem.W.typeIn K (.ref (iniA K d.cls)) = some (.type "function") ∧ ∃ fd, FunX K P d.nm d.q d.pa d.bd d.sc (He.ga K d.cls) (iniA K d.cls) fd := by
  have e := congrArg (fun z : AlX => z.2.1) c
  have o := List.all_eq_true.mp (Bool.and_eq_true_iff.mp (show (fx.all (fun z => z.ok K) && xd.all fun z => okX P.main.file K z) = true from e)).2 d h
  have e2 : xd.map (fun z => fnX' K (iniA K z.cls)) = xd.map DefX.val := congrArg (fun z : AlX => z.2.2) c
  obtain ⟨i, hi, ei⟩ := List.mem_iff_getElem.mp h
  have e3 : (xd.map (fun z => fnX' K (iniA K z.cls)))[i]? = (xd.map DefX.val)[i]? := by rw [e2]
  rw [List.getElem?_map, List.getElem?_map, List.getElem?_eq_getElem hi, ei] at e3
  exact funX_of (oexB_ok (c.x hx)) (Option.some.inj e3) o
end
end M
set_option linter.all false
set_option Elab.async false
set_option maxRecDepth 10000
/-! ExV: exceptions at the module's top, by lists; keywords and defaults. -/
namespace M
open PySem PySem.Spec PyProof.Rows L2 C8
/-- which is of which class -/
def isxOf (l : List (Str × Str × Bool)) (c d : Str) : Option Bool := (l.find? fun z => decide (z.1 = c) && decide (z.2.1 = d)).map fun z => z.2.2
def xflOf (l : List (Str × Str)) (c f : Str) : Bool := l.any fun z => decide (z.1 = c) && decide (z.2 = f)
theorem isxOf_mem {l : List (Str × Str × Bool)} {c d : Str} {b : Bool} (h : isxOf l c d = some b) : (c, d, b) ∈ l := by
  obtain ⟨z, hz, rfl⟩ := Option.map_eq_some_iff.mp h
  have h1 := List.find?_some hz
  have h2 := List.mem_of_find?_eq_some hz
  simp only [Bool.and_eq_true, decide_eq_true_eq] at h1
  obtain ⟨rfl, rfl⟩ := h1
  exact h2
theorem xflOf_mem {l : List (Str × Str)} {c f : Str} (h : xflOf l c f = true) : (c, f) ∈ l := by
  obtain ⟨z, hz, e⟩ := List.any_eq_true.mp h
  simp only [Bool.and_eq_true, decide_eq_true_eq] at e
  obtain ⟨rfl, rfl⟩ := e
  exact hz
def fxOf (xis : List (Str × Str × Bool)) (xfs : List (Str × Str)) (oxs : List Str) : List Fx := xis.map (fun z => .kit z.1 z.2.1 z.2.2) ++ (xis.map (fun z => .exm z.1 z.2.1 z.2.2) ++ (xis.map (fun z => .xis z.1) ++ (xfs.map (fun z => .att z.1 z.2) ++ oxs.map .oex)))
section
variable {P : Program} {w : World} {K : PySem.W.Frag} {mg : Str → Option Value} {base : Heap} {Γ : Tb} {cl : Str → Addr → Prop} {g : Bool} {j k : Nat} {h : Heap} {file : Str} {fa : List He.Fa} {fn : List He.DefD} {fb : List Fb} {pr : List (Str × Str × He.DefD)} {xd : List DefX} {xis : List (Str × Str × Bool)} {xfs : List (Str × Str)} {oxs : List Str}
theorem Sta.setXs (S : Sta P w K mg base Γ cl g k) (X : K.In h) (G : h.Ns mainGlobals mg) (c : SaysX file fa fn fb pr (fxOf xis xfs oxs) xd K) (hg : ∀ z ∈ xis, He.Fa.glo z.2.1 ∈ fa) : Sta P w K mg base (Γ.setX (isxOf xis) (xflOf xfs)) cl g k := by
  refine S.setX (fun x y b e => ?_) fun x f e => ?_
  · have m := isxOf_mem e
    refine ⟨He.glo_ok X G (c.m.fact (hg _ m)), ?_, ?_, ?_⟩
    · exact of_decide_eq_true (c.x (z := .kit x y b) (List.mem_append_left _ (List.mem_map.mpr ⟨_, m, rfl⟩)))
    · exact of_decide_eq_true (c.x (z := .exm x y b) (List.mem_append_right _ (List.mem_append_left _ (List.mem_map.mpr ⟨_, m, rfl⟩))))
    · exact xisB_ok (c.x (z := .xis x) (List.mem_append_right _ (List.mem_append_right _ (List.mem_append_left _ (List.mem_map.mpr ⟨_, m, rfl⟩)))))
  · have m := xflOf_mem e
    have z := c.x (z := .att x f) (List.mem_append_right _ (List.mem_append_right _ (List.mem_append_right _ (List.mem_append_left _ (List.mem_map.mpr ⟨_, m, rfl⟩)))))
    obtain ⟨z1, z2⟩ := Bool.and_eq_true_iff.mp z
    exact ⟨xfB_ok z1, He.eqO_ok z2⟩
theorem SaysX.o (c : SaysX file fa fn fb pr (fxOf xis xfs oxs) xd K) {x : Str} (hx : x ∈ oxs) : Fx.oex x ∈ fxOf xis xfs oxs :=
  List.mem_append_right _ (List.mem_append_right _ (List.mem_append_right _ (List.mem_append_right _ (List.mem_map.mpr ⟨_, hx, rfl⟩))))
/-- an exception with one field -/
theorem Sta.addX {d : DefX} {fld : Str} {N ps : List Str} (S : Sta P w K mg base Γ cl g (k + 1)) (X : K.In h) (G : h.Ns mainGlobals mg) (c : SaysX P.main.file fa fn fb pr (fxOf xis xfs oxs) xd K) (hd : d ∈ xd) (ho : d.cls ∈ oxs) (hg : He.Fa.glo d.cls ∈ fa) (hf : (d.cls, fld) ∈ xfs) (hz : mg "super" = none) (htop : (P.main.scope.names.lookup ("super" : Str)).isSome = false)
    (hs : scEC N ps d.sc = true) (hl : ps.length = 2) (hb : iniC N d.sc fld d.bd = true) (har : ((d.pa.posonlyargs ++ d.pa.args).head?.map fun z => z.arg) = N[0]?)
    (bi : ∀ (kV doc pm : Value) (an : Option Addr) (cda cc : Addr) (ct : Value) (us : List Value), us.length = ps.length → bindArgs (PySem.W.ksFn d.nm d.q d.pa d.bd d.sc .none kV doc pm an (.ref cda) ct cc) ⟨us, []⟩ = pure (ps.zip us)) :
    Sta P w K mg base (Γ.addE d.cls (fxOne fld)) cl g (k + 1) := by
  obtain ⟨h1, h2, fd, F⟩ := c.d hd (c.o ho)
  have T := oexB_ok (c.x (c.o ho))
  have z := c.x (z := .att d.cls fld) (List.mem_append_right _ (List.mem_append_right _ (List.mem_append_right _ (List.mem_append_left _ (List.mem_map.mpr ⟨_, hf, rfl⟩)))))
  obtain ⟨_, z2⟩ := Bool.and_eq_true_iff.mp z
  have ok := fnX_of (w := w) (base := base) (k := k) F hs hl hb har hz htop (He.eqO_ok z2)
  obtain ⟨oc, od, kV, doc, pm, an, cda, cc, ct, osl, rfl, lk, hcd, B⟩ := F.ex
  exact S.addE (He.glo_ok X G (c.m.fact hg)) T h1 h2 ok (.all (bi kV doc pm an cda cc ct)) mkX_one
/-! ### keywords, defaults -/
def Tb.addK (Γ : Tb) (x : Str) (ks : List Str) (fn : Fn) : Tb := { Γ with fk := fun y js => if y = x ∧ js = ks then some fn else Γ.fk y js }
theorem Sta.addK {x : Str} {ks : List Str} {fn : Fn} {f : Addr} {fd : FuncData} {ps : List Str} (S : Sta P w K mg base Γ cl g k) (hm : mg x = some (.ref f)) (hk : PySem.W.keepIn K (.ref f) = true) (hb : BindK K fd ps ks []) (F : FnG g P w K mg base k f fd ps (spOf cl K fn)) : Sta P w K mg base (Γ.addK x ks fn) cl g k := by
  refine { S with fk := fun y js fn' e => ?_ }
  have e : (if y = x ∧ js = ks then some fn else Γ.fk y js) = some fn' := e
  split at e
  · rename_i ey
    cases e
    obtain ⟨rfl, rfl⟩ := ey
    exact ⟨f, fd, ps, [], [], hm, hk, .nil, hb, fnG_plain F⟩
  · exact S.fk y js fn' e
theorem Sta.addD {x : Str} {fn : Fn} {f : Addr} {fd : FuncData} {ps : List Str} {dvs : List V} {ds : List Value} (S : Sta P w K mg base Γ cl g k) (hm : mg x = some (.ref f)) (hk : PySem.W.keepIn K (.ref f) = true) (hv : Vals dvs ds) (hb : Binds K fd ps ds) (F : FnG g P w K mg base k f fd ps fun vs H Q E => ∃ us, vs = us ++ dvs ∧ spOf cl K fn us H Q E) : Sta P w K mg base (Γ.addF x fn) cl g k := by
  refine { S with fn := fun y fn' e => ?_ }
  have e : (if y = x then some fn else Γ.f y) = some fn' := e
  split at e
  · rename_i ey
    cases e
    subst ey
    refine ⟨f, fd, ps, dvs, ds, hm, hk, hv, fun s us ws hin hl hw => ?_, F⟩
    cases ws with
    | nil =>
      rw [List.append_nil] at hl ⊢
      exact hb s us hin hl
    | cons _ _ => cases hw
  · exact S.fn y fn' e
/-- a last argument by default, for a def that changes no list -/
theorem sp_dflt {fn fn0 : Fn} {v : V} {d : D} (e1 : fn.ps = [.sh, .bo, .sh]) (e0 : fn0.ps = [.sh, .bo]) (hv : ∀ F, Rep cl K F v d) (hs : ∀ ds Q X, fn0.sp ds Q X → fn.sp (ds ++ [d]) Q X) : ∀ vs H Q E, (∃ us, vs = us ++ [v] ∧ spOf cl K fn0 us H Q E) → spOf cl K fn vs H Q E := by
  rintro vs H Q E ⟨us, rfl, F, ds, Q1, X1, m0, ar, nd, ap, sp, qr, qx⟩
  rw [e0] at ar nd ap qr qx
  cases ar with
  | @cons v1 m1 d1 vs1 ms1 ds1 r1 rr =>
    cases rr with
    | @cons v2 m2 d2 vs2 ms2 ds2 r2 rr2 =>
      cases rr2
      have i0 : ioA [.sh, .bo] [v1, v2] = [] := rfl
      have i1 : ioA [.sh, .bo, .sh] [v1, v2, v] = [] := rfl
      rw [i0] at qr qx
      refine ⟨F, [d1, d2] ++ [d], Q1, X1, m0, by rw [e1]; exact .cons r1 (.cons r2 (.cons (hv F) .nil)), by rw [e1]; exact List.nodup_nil, by rw [e1]; exact fun a h => (by cases h), hs _ _ _ sp, ?_, ?_⟩
      · rw [e1]
        exact qr
      · rw [e1]
        exact qx
end
end M
set_option linter.all false
set_option Elab.async false
set_option maxRecDepth 10000
/-! GraphA: Graph.__init__, by hand: what it makes. -/
namespace M
open PySem PySem.Spec PyProof.Rows L2
/-- the edges at v -/
def atG : Nat → List (Int × Int) → Int → List Int
  | _, [], _ => []
  | k, p :: r, v => (if p.1 = v ∨ p.2 = v then [(k : Int)] else []) ++ atG (k + 1) r v
theorem atG_snoc (p : Int × Int) (v : Int) : ∀ (k : Nat) (l : List (Int × Int)), atG k (l ++ [p]) v = atG k l v ++ (if p.1 = v ∨ p.2 = v then [((k + l.length : Nat) : Int)] else [])
  | k, [] => by simp [atG]
  | k, q :: l => by
    rw [List.cons_append, atG, atG, atG_snoc p v (k + 1) l, List.append_assoc, List.length_cons]
    have : k + 1 + l.length = k + (l.length + 1) := by omega
    rw [this]
theorem atG_len (v : Int) : ∀ (k : Nat) (l : List (Int × Int)), (atG k l v).length ≤ l.length
  | k, [] => Nat.le_refl _
  | k, q :: l => by
    rw [atG, List.length_append, List.length_cons]
    have := atG_len v (k + 1) l
    split
    · simp only [List.length_singleton]
      omega
    · simp only [List.length_nil]
      omega
def pairD (p : Int × Int) : D := .tup [.int p.1, .int p.2]
def graphD (n : Nat) (ps : List (Int × Int)) : D := .ins "Graph" [("_many", .int n), ("_pairs", .lst (ps.map pairD)), ("_at", .lst ((List.range n).map fun (v : Nat) => .lst ((atG 0 ps v).map D.int)))]
def okG (n : Nat) (ps : List (Int × Int)) : Prop := ∀ p ∈ ps, 0 ≤ p.1 ∧ p.1 < n ∧ 0 ≤ p.2 ∧ p.2 < n
def mkG : Fn := ⟨[.sh, .bo], fun ds Q _ => ∃ (n : Nat) (ps : List (Int × Int)), ds = [.int n, .lst (ps.map pairD)] ∧ okG n ps ∧ n < line ∧ ps.length < line ∧ Q (.sh (graphD n ps)) []⟩
/-! ### the heap while it is made -/
section
variable {cl : Str → Addr → Prop} {K : PySem.W.Frag}
/-- at x, dx the new graph; its lists p, q, ls; the edges so far -/
structure Gi (cl : Str → Addr → Prop) (K : PySem.W.Frag) (C x dx p q e : Addr) (ls : List Addr) (n : Nat) (ws : List V) (pd : List D) (at' : Nat → List Int) (F H : Hp) : Prop where
  fh : Same F H
  hx : H x = some (.ins C dx [("_many", .int n), ("_pairs", .ref p), ("_at", .ref q)])
  he : H e = some (.lst ws)
  hp : ∃ vs, H p = some (.lst vs) ∧ Reps cl K F vs pd
  hq : H q = some (.lst (ls.map V.ref))
  len : ls.length = n
  hl : ∀ (v : Nat) a, ls[v]? = some a → H a = some (.lst ((at' v).map V.int))
  nd : ls.Nodup
  fx : F x = none
  fp : F p = none
  fq : F q = none
  fl : ∀ a ∈ ls, F a = none
  px : p ≠ x
  pe : p ≠ e
  pq : p ≠ q
  pl : p ∉ ls
  lx : x ∉ ls
  le : e ∉ ls
  lq : q ∉ ls
theorem Gi.mono {C x dx p q e : Addr} {ls : List Addr} {n : Nat} {ws : List V} {pd : List D} {at' : Nat → List Int} {F H F' H' : Hp} (h : Gi cl K C x dx p q e ls n ws pd at' F H) (m : Same F F') (m2 : Same F' H') (k : Same H H') (f : ∀ a, F' a ≠ none → F a = none → H a = none) : Gi cl K C x dx p q e ls n ws pd at' F' H' := by
  have no : ∀ a o, F a = none → H a = some o → F' a = none := fun a o e1 e2 => by
    cases z : F' a with
    | none => rfl
    | some u =>
      have := f a (by rw [z]; simp) e1
      rw [this] at e2
      cases e2
  obtain ⟨vs, h1, h2⟩ := h.hp
  refine ⟨m2, k _ _ h.hx, k _ _ h.he, ⟨vs, k _ _ h1, h2.mono m⟩, k _ _ h.hq, h.len, fun v a e => k _ _ (h.hl v a e), h.nd, no _ _ h.fx h.hx, no _ _ h.fp h1, no _ _ h.fq h.hq, fun a ha => ?_, h.px, h.pe, h.pq, h.pl, h.lx, h.le, h.lq⟩
  obtain ⟨i, hi, e⟩ := List.mem_iff_getElem.mp ha
  exact no a _ (h.fl a ha) (h.hl i a (by rw [List.getElem?_eq_getElem hi, e]))
/-- done: the graph as data -/
theorem Gi.done {C x dx p q e : Addr} {ls : List Addr} {n : Nat} {ws : List V} {ps : List (Int × Int)} {F H : Hp} (h : Gi cl K C x dx p q e ls n ws (ps.map pairD) (fun v => atG 0 ps v) F H) (hc : cl "Graph" C) : ∃ F', Same F F' ∧ Same F' H ∧ Rep cl K F' (.ref x) (graphD n ps) ∧ ∀ a, F' a ≠ none → F a = none → a = x ∨ a = p ∨ a = q ∨ a ∈ ls := by
  have dec : ∀ a, Decidable (a = x ∨ a = p ∨ a = q ∨ a ∈ ls) := fun a => inferInstance
  let F' : Hp := fun a => match F a with
    | some u => some u
    | none => if a = x ∨ a = p ∨ a = q ∨ a ∈ ls then H a else none
  have m : Same F F' := fun a u e => by
    show (match F a with
      | some u => some u
      | none => if a = x ∨ a = p ∨ a = q ∨ a ∈ ls then H a else none) = some u
    rw [e]
  have at_ : ∀ a, F a = none → (a = x ∨ a = p ∨ a = q ∨ a ∈ ls) → F' a = H a := fun a e i => by
    show (match F a with
      | some u => some u
      | none => if a = x ∨ a = p ∨ a = q ∨ a ∈ ls then H a else none) = H a
    rw [e]
    exact if_pos i
  have out : ∀ a, F a = none → ¬ (a = x ∨ a = p ∨ a = q ∨ a ∈ ls) → F' a = none := fun a e i => by
    show (match F a with
      | some u => some u
      | none => if a = x ∨ a = p ∨ a = q ∨ a ∈ ls then H a else none) = none
    rw [e]
    exact if_neg i
  obtain ⟨vs, h1, h2⟩ := h.hp
  have ivs : ∀ l : List Int, Reps cl K F' (l.map V.int) (l.map D.int) := fun l => by
    induction l with
    | nil => exact .nil
    | cons i l ih => exact .cons (.int i) ih
  have lists : Reps cl K F' (ls.map V.ref) ((List.range n).map fun (v : Nat) => .lst ((atG 0 ps v).map D.int)) := by
    have go : ∀ (l : List Addr) (j : Nat), (∀ (v : Nat) a, l[v]? = some a → ls[j + v]? = some a) → Reps cl K F' (l.map V.ref) ((List.range' j l.length).map fun (v : Nat) => .lst ((atG 0 ps v).map D.int)) := fun l => by
      induction l with
      | nil => exact fun j _ => .nil
      | cons a l ih =>
        intro j hj
        have e0 : ls[j]? = some a := hj 0 a rfl
        have ha : a ∈ ls := List.mem_of_getElem? e0
        refine .cons (.lst ((at_ a (h.fl a ha) (.inr (.inr (.inr ha)))).trans (h.hl j a e0)) (ivs _)) (ih (j + 1) fun v b hb => ?_)
        have := hj (v + 1) b (by simpa using hb)
        rw [← this]
        congr 1
        omega
    have := go ls 0 fun v a e => by rw [Nat.zero_add]; exact e
    rw [h.len] at this
    rw [List.range_eq_range']
    exact this
  refine ⟨F', m, fun a u e => ?_, .ins hc ((at_ x h.fx (.inl rfl)).trans h.hx) (.cons (.int n) (.cons (.lst ((at_ p h.fp (.inr (.inl rfl))).trans h1) (h2.mono m)) (.cons (.lst ((at_ q h.fq (.inr (.inr (.inl rfl)))).trans h.hq) lists) .nil))), fun a n1 n2 => ?_⟩
  · cases z : F a with
    | some w =>
      rw [m _ _ z] at e
      cases e
      exact h.fh _ _ z
    | none =>
      by_cases i : a = x ∨ a = p ∨ a = q ∨ a ∈ ls
      · rw [← at_ a z i]
        exact e
      · rw [out a z i] at e
        cases e
  · by_cases i : a = x ∨ a = p ∨ a = q ∨ a ∈ ls
    · exact i
    · exact absurd (out a n2 i) n1
/-- one pair more -/
theorem Gi.pair {C x dx p q e : Addr} {ls : List Addr} {n : Nat} {ws vs : List V} {pd : List D} {at' : Nat → List Int} {F H : Hp} {v : V} {d : D} (h : Gi cl K C x dx p q e ls n ws pd at' F H) (hv : H p = some (.lst vs)) (r : Rep cl K F v d) : Gi cl K C x dx p q e ls n ws (pd ++ [d]) at' F (upd H p (.lst (vs ++ [v]))) := by
  obtain ⟨vs', h1, h2⟩ := h.hp
  rw [hv] at h1
  cases h1
  have fo : ∀ a u, F a = some u → a ≠ p := fun a u e1 e2 => by
    rw [e2, h.fp] at e1
    cases e1
  refine ⟨fun a u e1 => ?_, ?_, ?_, ⟨_, upd_same, h2.app (.cons r .nil)⟩, ?_, h.len, fun v a e1 => ?_, h.nd, h.fx, h.fp, h.fq, h.fl, h.px, h.pe, h.pq, h.pl, h.lx, h.le, h.lq⟩
  · rw [upd_ne (fo a u e1)]
    exact h.fh a u e1
  · rw [upd_ne (Ne.symm h.px)]
    exact h.hx
  · rw [upd_ne (Ne.symm h.pe)]
    exact h.he
  · rw [upd_ne (Ne.symm h.pq)]
    exact h.hq
  · rw [upd_ne (fun z => h.pl (by rw [← z]; exact List.mem_of_getElem? e1))]
    exact h.hl v a e1
/-- one edge more at v -/
theorem Gi.more {C x dx p q e a : Addr} {ls : List Addr} {n v : Nat} {ws : List V} {pd : List D} {at' : Nat → List Int} {F H : Hp} {i : Int} (h : Gi cl K C x dx p q e ls n ws pd at' F H) (ha : ls[v]? = some a) :
    Gi cl K C x dx p q e ls n ws pd (fun w => if w = v then at' w ++ [i] else at' w) F (upd H a (.lst ((at' v ++ [i]).map V.int))) := by
  have mem := List.mem_of_getElem? ha
  have fo : ∀ b u, F b = some u → b ≠ a := fun b u e1 e2 => by
    rw [e2, h.fl a mem] at e1
    cases e1
  obtain ⟨vs, h1, h2⟩ := h.hp
  refine ⟨fun b u e1 => ?_, ?_, ?_, ⟨vs, ?_, h2⟩, ?_, h.len, fun w b e1 => ?_, h.nd, h.fx, h.fp, h.fq, h.fl, h.px, h.pe, h.pq, h.pl, h.lx, h.le, h.lq⟩
  · rw [upd_ne (fo b u e1)]
    exact h.fh b u e1
  · rw [upd_ne (fun z => h.lx (by rw [z]; exact mem))]
    exact h.hx
  · rw [upd_ne (fun z => h.le (by rw [z]; exact mem))]
    exact h.he
  · rw [upd_ne (fun z => h.pl (by rw [z]; exact mem))]
    exact h1
  · rw [upd_ne (fun z => h.lq (by rw [z]; exact mem))]
    exact h.hq
  · by_cases z : w = v
    · subst z
      rw [ha] at e1
      cases e1
      rw [upd_same, if_pos rfl]
    · have ne : b ≠ a := fun y => by
        subst y
        have hw := (List.getElem?_eq_some_iff.mp e1).1
        have e2 : ls[w]? = ls[v]? := by rw [e1, ha]
        exact z ((List.getElem?_inj hw h.nd).mp e2)
      rw [upd_ne ne, if_neg z]
      exact h.hl w b e1
end
end M
set_option linter.all false
set_option Elab.async false
set_option maxRecDepth 10000
/-! GraphB: Graph.__init__'s text, looked at. -/
namespace M
open PySem PySem.Spec PyProof.Rows L2
def ckName (N : List Str) (sc : Scope) (i : Nat) (x : Expr) : Bool := match x with
  | .Name y _ => at_ N i y && vis sc y && okn y
  | _ => false
def ckFld (N : List Str) (sc : Scope) (f : Str) (x : Expr) : Bool := match x with
  | .Attribute o n _ => decide (n = f) && noSup o && ckName N sc 0 o
  | _ => false
def ckPut (N : List Str) (sc : Scope) (f : Str) (v : Expr → Bool) (x : Stmt) : Bool := match x with
  | .Assign [.Attribute o n _] e _ => decide (n = f) && ckName N sc 0 o && v e
  | _ => false
def ckApp (co ce : Expr → Bool) (x : Stmt) : Bool := match x with
  | .Expr (.Call (.Attribute l n ap) [a] [] cp) _ => decide (n = "append") && noSup l && noStar a && (ap.endLine == cp.line) && co l && ce a
  | _ => false
def ckNil (x : Expr) : Bool := match x with
  | .List [] _ => true
  | _ => false
def ckIx (co ci : Expr → Bool) (x : Expr) : Bool := match x with
  | .Subscript a b _ => noSlice b && co a && ci b
  | _ => false
def ckLists (N : List Str) (sc : Scope) (x : Expr) : Bool := match x with
  | .ListComp el [⟨.Name y _, .Call (.Name r _) [a] [] _, [], k⟩] scope _ => decide (k = 0) && ckNil el && at_ N 3 y && sto (relS scope sc) (isCell scope) y && decide (r = "range") && glo sc r && noStar a && ckName N sc 1 a && blkC N sc scope [(y, 3)]
  | _ => false
def ckEnu (N : List Str) (sc : Scope) (t x : Expr) : Bool := !notTupL t && (match x with
  | .Call (.Name r _) [a] [] _ => decide (r = "enumerate") && glo sc r && noStar a && ckName N sc 2 a
  | _ => false)
def tgG : T := .tp (.nm 4) (.tp (.tp (.nm 5) (.tp (.nm 6) .tz)) .tz)
def bG1 : B := .cmp .lt (.var 1) (.int 0)
def bG2 : B := .or (.cons (.not (.chn .le .lt (.int 0) (.var 5) (.var 1))) (.cons (.not (.chn .le .lt (.int 0) (.var 6) (.var 1))) .nil))
def bG3 : B := .cmp .ne (.var 6) (.var 5)
def eG : E := .tup (.cons (.var 5) (.cons (.var 6) .nil))
def tbN : Tb := tb0 fun _ _ => false
def ckInit (N : List Str) (sc : Scope) (b : List Stmt) : Bool := match b with
  | [.If c _ [] _, s2, s3, s4, .For tg it [.If c2 _ [] _, a2, a3, .If c4 [a5] [] _] [] _] =>
    ckT false N tbN bG1 sc (fun _ => true) c && ckPut N sc "_many" (ckName N sc 1) s2 && ckPut N sc "_pairs" ckNil s3 && ckPut N sc "_at" (ckLists N sc) s4 && notSet it && ckEnu N sc tg it && ckG N tgG sc (fun _ => true) tg &&
    ckT false N tbN bG2 sc (fun _ => true) c2 && ckApp (ckFld N sc "_pairs") (ckE false N tbN eG sc (fun _ => true)) a2 && ckApp (ckIx (ckFld N sc "_at") (ckName N sc 5)) (ckName N sc 4) a3 && ckT false N tbN bG3 sc (fun _ => true) c4 && ckApp (ckIx (ckFld N sc "_at") (ckName N sc 6)) (ckName N sc 4) a5
  | _ => false
section
variable {X : Cx} {N : List Str} {sc : Scope} {fn : Str → Bool} {cl : Str → Addr → Prop} {W : WX} {k : Nat}
theorem name_ok {i : Nat} {x : Expr} (V : Nv X N sc fn) (h : ckName N sc i x = true) : PE X x (tVar i) := by
  unfold ckName at h
  split at h
  · simp only [Bool.and_eq_true] at h
    exact pe_var (at_ok V h.1.1) (vis_ok V h.1.2) (okn1 h.2) (okn2 h.2)
  · cases h
theorem fldE_ok {f : Str} {x : Expr} (V : Nv X N sc fn) (h : ckFld N sc f x = true) : PE X x (tFld X.K (tVar 0) f) := by
  unfold ckFld at h
  split at h
  · simp only [Bool.and_eq_true, decide_eq_true_eq] at h
    obtain ⟨⟨rfl, h1⟩, h2⟩ := h
    exact pe_fld (name_ok V h2) (base_ok h1)
  · cases h
theorem swap_attr {e o : Expr} {f : Str} {p : Pos} {l : Nat} {env : PySem.Env} : swapsWith e (some (.Attribute o f p)) l env = pure false := by
  cases e <;> rfl
theorem put_ok {f : Str} {v : Expr → Bool} {x : Stmt} {tv : TE} (V : Nv X N sc fn) (hv : ∀ e, v e = true → PE X e tv) (h : ckPut N sc f v x = true) : PS X x (sFld X.K (tVar 0) tv f) := by
  unfold ckPut at h
  split at h
  · simp only [Bool.and_eq_true, decide_eq_true_eq] at h
    obtain ⟨⟨rfl, h1⟩, h2⟩ := h
    exact ps_fld (name_ok V h1) (hv _ h2) swap_attr
  · cases h
theorem app_ok {co ce : Expr → Bool} {x : Stmt} {to te : TE} (hco : ∀ e, co e = true → PE X e to) (hce : ∀ e, ce e = true → PE X e te) (h : ckApp co ce x = true) : PS X x (tDrop (tBM X.K "list" rAppend to (tCons te tNil))) := by
  unfold ckApp at h
  split at h
  · simp only [Bool.and_eq_true, decide_eq_true_eq] at h
    obtain ⟨⟨⟨⟨⟨rfl, h1⟩, h2⟩, h3⟩, h4⟩, h5⟩ := h
    exact ps_expr (pe_bm PySem.F.plainAttrs_list PySem.F.slot_list_append PySem.F.type_list_append mt_append (hco _ h4) (pa_cons (hce _ h5) pa_nil (star_ok h2)) (base_ok h1) (few_ok h2) h3 (star_ok h2) rfl) rfl
  · cases h
theorem nil_ok {x : Expr} (h : ckNil x = true) : PE X x (tLst tNil) := by
  unfold ckNil at h
  split at h
  · exact pe_lst pa_nil
  · cases h
theorem ixE_ok {co ci : Expr → Bool} {x : Expr} {to ti : TE} (hco : ∀ e, co e = true → PE X e to) (hci : ∀ e, ci e = true → PE X e ti) (h : ckIx co ci x = true) : PE X x (tOp (rIxL X.K) to ti) := by
  unfold ckIx at h
  split at h
  · simp only [Bool.and_eq_true] at h
    exact pe_ix ix_list (hco _ h.1.2) (hci _ h.2) (ix_ok h.1.1)
  · cases h
theorem lists_ok {g : Bool} {Γ : Tb} {x : Expr} (G : Gd X Γ cl g k W) (V : Nv X N sc fn) (h : ckLists N sc x = true) : PE X x (tLc (iRng1 (tCons (tVar 1) tNil)) (gName 3) tYes (tLst tNil) [3]) := by
  unfold ckLists at h
  split at h
  · simp only [Bool.and_eq_true, decide_eq_true_eq] at h
    obtain ⟨⟨⟨⟨⟨⟨⟨⟨rfl, h1⟩, h2⟩, h3⟩, rfl⟩, h5⟩, h6⟩, h7⟩, h8⟩ := h
    have kd := blk_kind h8
    refine pe_lc (own := [(_, 3)]) G.calm G.nd (pi_range1 (glo_ok V h5) (G.bn _ (by decide +kernel)) (pa_cons (name_ok V h7) pa_nil (star_ok h6)) (star_ok h6)) (by rw [V.eN, V.eS]; exact blkOk_by h8) (fun s H C cc fp => ?_) (fun s H C cc fp => pts_nil) (fun s H C cc fp => nil_ok h1) fun _ => rfl
    have V2 := V.blk (s := s) (H := H) (C := C) (cc := cc) (fp := fp) kd
    have st := sto_ok V2 h3
    exact pg_name G.nd (at_ok V2 h2) (st.imp id (·.1)) (st.elim .inr fun z => .inl z.2)
  · cases h
theorem enu_ok {g : Bool} {Γ : Tb} {t x : Expr} (G : Gd X Γ cl g k W) (V : Nv X N sc fn) (h : ckEnu N sc t x = true) : PI X t x (iEnum X.K (tCons (tVar 2) tNil)) := by
  unfold ckEnu at h
  rw [Bool.and_eq_true] at h
  obtain ⟨ht, h⟩ := h
  cases t with
  | Tuple es kk tp =>
    split at h
    · simp only [Bool.and_eq_true, decide_eq_true_eq] at h
      obtain ⟨⟨⟨rfl, h1⟩, h2⟩, h3⟩ := h
      exact pi_enum (glo_ok V h1) (G.bn _ (by decide +kernel)) (pa_cons (name_ok V h3) pa_nil (star_ok h2)) (star_ok h2)
    · cases h
  | _ => cases ht
/-- the text's reading -/
def tInit (Γ : Tb) (cl : Str → Addr → Prop) (K : PySem.W.Frag) (W : WX) : TS :=
  tSeq (tIfS (tB' Γ cl K W bG1) tNever tNext) (tSeq (sFld K (tVar 0) (tVar 1) "_many") (tSeq (sFld K (tVar 0) (tLst tNil) "_pairs") (tSeq (sFld K (tVar 0) (tLc (iRng1 (tCons (tVar 1) tNil)) (gName 3) tYes (tLst tNil) [3]) "_at")
    (tFor (iEnum K (tCons (tVar 2) tNil)) (tG cl K tgG) (tSeq (tIfS (tB' Γ cl K W bG2) tNever tNext) (tSeq (tDrop (tBM K "list" rAppend (tFld K (tVar 0) "_pairs") (tCons (tE Γ cl K W eG) tNil)))
      (tSeq (tDrop (tBM K "list" rAppend (tOp (rIxL K) (tFld K (tVar 0) "_at") (tVar 5)) (tCons (tVar 4) tNil)))
        (tIfS (tB' Γ cl K W bG3) (tDrop (tBM K "list" rAppend (tOp (rIxL K) (tFld K (tVar 0) "_at") (tVar 6)) (tCons (tVar 4) tNil))) tNext))))))))
theorem init_ok {b : List Stmt} (G : Gd X tbN cl false k W) (V : Nv X N sc fun _ => true) (hp : PassesOwn (model X.prog X.w) X.A X.env X.xe) (h : ckInit N sc b = true) : PSs X b (tInit tbN cl X.K W) := by
  unfold ckInit at h
  split at h
  · simp only [Bool.and_eq_true] at h
    obtain ⟨⟨⟨⟨⟨⟨⟨⟨⟨⟨⟨h1, h2⟩, h3⟩, h4⟩, h5⟩, h6⟩, h7⟩, h8⟩, h9⟩, h10⟩, h11⟩, h12⟩ := h
    refine pss_cons (ps_if (sT _ G V _ h1) pss_never pss_nil) (pss_cons (put_ok V (fun e => name_ok V) h2) (pss_cons (put_ok V (fun e => nil_ok) h3) (pss_cons (put_ok V (fun e => lists_ok G V) h4) (pss_one ?_))))
    refine ps_for hp G.calm (enu_ok G V h6) (sG _ G.calm G.nd V _ h7) ?_ (fold_ok h5)
    exact pss_cons (ps_if (sT _ G V _ h8) pss_never pss_nil) (pss_cons (app_ok (fun e => fldE_ok V) (fun e => sE _ G V e) h9) (pss_cons (app_ok (fun e => ixE_ok (fun e => fldE_ok V) (fun e => name_ok V)) (fun e => name_ok V) h10)
      (pss_one (ps_if (sT _ G V _ h11) (pss_one (app_ok (fun e => ixE_ok (fun e => fldE_ok V) (fun e => name_ok V)) (fun e => name_ok V) h12)) pss_nil))))
  · cases h
end
end M
set_option linter.all false
set_option Elab.async false
set_option maxRecDepth 10000
/-! GraphC: Graph.__init__ makes the graph. -/
namespace M
open PySem PySem.Spec PyProof.Rows L2
section
variable {cl : Str → Addr → Prop} {K : PySem.W.Frag} {W : WX}
/-- the whole heap is kept -/
def cc (F H : Hp) (e : Addr) (he : H e ≠ none) : Ct := ct0 F H [] (fun a => a = e) fun a z => by rw [z]; exact he
/-- the slots: o: what the loop's names hold -/
def rhoG (n : Nat) (ps : List (Int × Int)) (o : Option (Int × Int × Int)) : En := [.top, .sh (.int n), .bo (ps.map pairD), .top, (match o with
  | none => .top
  | some (i, _, _) => .sh (.int i)), (match o with
  | none => .top
  | some (_, t, _) => .sh (.int t)), (match o with
  | none => .top
  | some (_, _, h) => .sh (.int h))]
/-- what the names hold -/
structure Sg (σ : L2.St) (x e : Addr) (n : Nat) (o : Option (Int × Int × Int)) : Prop where
  len : σ.length = 7
  s0 : σ[0]? = some (some (V.ref x))
  s1 : σ[1]? = some (some (V.int n))
  s2 : σ[2]? = some (some (V.ref e))
  so : ∀ i t h, o = some (i, t, h) → σ[4]? = some (some (V.int i)) ∧ σ[5]? = some (some (V.int t)) ∧ σ[6]? = some (some (V.int h))
theorem rlG {F H : Hp} {σ : L2.St} {x e : Addr} {n : Nat} {ps : List (Int × Int)} {ws : List V} {o : Option (Int × Int × Int)} (he : H e = some (.lst ws)) (m : Same F H) (r : Reps cl K F ws (ps.map pairD)) (s : Sg σ x e n o) : Rl cl K (cc F H e (by rw [he]; simp)) F (rhoG n ps o) σ H := by
  have no : ∀ (i : Nat) t, (rhoG n ps o)[i]? = some t → t.own = false := fun i t h => by
    match i, h with
    | 0, h => cases h; rfl
    | 1, h => cases h; rfl
    | 2, h => cases h; rfl
    | 3, h => cases h; rfl
    | 4, h =>
      cases o <;> (cases h; rfl)
    | 5, h =>
      cases o <;> (cases h; rfl)
    | 6, h =>
      cases o <;> (cases h; rfl)
    | _ + 7, h => cases h
  refine ⟨by rw [s.len] <;> rfl, m, Same.refl F, fun a h1 h2 => absurd h2 h1, fun a u h _ => h, fun i t h => ?_, fun i j t t' a _ h1 _ o1 => (by
    rw [no i t h1] at o1
    cases o1), fun j a h => (by cases h)⟩
  match i, h with
  | 0, h => cases h; trivial
  | 1, h => cases h; exact ⟨_, s.s1, .int _⟩
  | 2, h => cases h; exact ⟨e, ws, s.s2, he, ⟨fun j z => (by cases z), rfl⟩, r⟩
  | 3, h => cases h; trivial
  | 4, h =>
    cases o with
    | none => cases h; trivial
    | some o => cases h; exact ⟨_, (s.so _ _ _ rfl).1, .int _⟩
  | 5, h =>
    cases o with
    | none => cases h; trivial
    | some o => cases h; exact ⟨_, (s.so _ _ _ rfl).2.1, .int _⟩
  | 6, h =>
    cases o with
    | none => cases h; trivial
    | some o => cases h; exact ⟨_, (s.so _ _ _ rfl).2.2, .int _⟩
  | _ + 7, h => cases h
/-- the heap has grown -/
structure Grow (F H F' H' : Hp) : Prop where
  ff : Same F F'
  fh : Same F' H'
  hh : Same H H'
  fn : ∀ a, F' a ≠ none → F a = none → H a = none
theorem Grow.trans {F H F' H' F2 H2 : Hp} (a : Grow F H F' H') (b : Grow F' H' F2 H2) : Grow F H F2 H2 :=
  ⟨a.ff.trans b.ff, b.fh, a.hh.trans b.hh, fun x h1 h2 => by
    cases z : F' x with
    | some u => exact a.fn x (by rw [z]; simp) h2
    | none =>
      have := b.fn x h1 z
      cases y : H x with
      | none => rfl
      | some u =>
        rw [a.hh _ _ y] at this
        cases this⟩
theorem grow_of {F H F' H' : Hp} {e : Addr} {he : H e ≠ none} {ρ : En} {σ : L2.St} (m : Same F F') (R : Rl cl K (cc F H e he) F' ρ σ H') : Grow F H F' H' :=
  ⟨m, R.fh, fun a u h => R.kp a u h fun j z => (by cases z), R.fn⟩
/-- a test -/
theorem testG {Γ : Tb} {F H : Hp} {σ : L2.St} {x e : Addr} {n : Nat} {ps : List (Int × Int)} {ws : List V} {o : Option (Int × Int × Int)} {b : B} {v : Bool} {Q : Bool → Hp → Prop} (he : H e = some (.lst ws)) (m : Same F H) (r : Reps cl K F ws (ps.map pairD)) (s : Sg σ x e n o)
    (h : dT Γ b (rhoG n ps o) (fun t ρ => t = v) nEx) (q : ∀ F' H', Grow F H F' H' → Q v H') : tB' Γ cl K W b σ H Q :=
  ⟨_, F, _, _, nEx, rlG he m r s, h, fun t ρ' F' H' z m' R => by
    subst z
    exact q F' H' (grow_of m' R), exl0⟩
theorem t1 {Γ : Tb} {n : Nat} {ps : List (Int × Int)} : dT Γ bG1 (rhoG n ps none) (fun t ρ => t = false) nEx := decide_eq_false (show ¬ ((n : Int) < 0) by omega)
theorem t2 {Γ : Tb} {n : Nat} {ps : List (Int × Int)} {i t h : Int} (h1 : 0 ≤ t) (h2 : t < n) (h3 : 0 ≤ h) (h4 : h < n) : dT Γ bG2 (rhoG n ps (some (i, t, h))) (fun t ρ => t = false) nEx := by
  have e1 : decide ((0 : Int) ≤ t) = true := decide_eq_true h1
  have e2 : decide (t < (n : Int)) = true := decide_eq_true h2
  have e3 : decide ((0 : Int) ≤ h) = true := decide_eq_true h3
  have e4 : decide (h < (n : Int)) = true := decide_eq_true h4
  show (if decide ((0 : Int) ≤ t) = true then _ else _)
  rw [if_pos e1]
  show (if (!decide (t < (n : Int))) = true then _ else _)
  rw [e2, if_neg (by decide)]
  show (if decide ((0 : Int) ≤ h) = true then _ else _)
  rw [if_pos e3]
  show (!decide (h < (n : Int))) = false
  rw [e4] <;> rfl
theorem t3 {Γ : Tb} {n : Nat} {ps : List (Int × Int)} {i t h : Int} : dT Γ bG3 (rhoG n ps (some (i, t, h))) (fun b ρ => b = !decide (h = t)) nEx := rfl
/-- what is read, and appended -/
theorem appG {x p : Addr} {C dx : Addr} {f : Str} {fs : List (Str × V)} {H : Hp} {σ : L2.St} {vs : List V} {te : TE} {Q : VK} (hs : σ[0]? = some (some (V.ref x))) (hx : H x = some (.ins C dx fs)) (hc : Cls K C) (hn : NoAttr K C f) (hl : fs.lookup f = some (.ref p)) (hp : H p = some (.lst vs))
    (q : te σ H fun v H2 => rAppend (.ref p) [v] H2 Q) : tBM K "list" rAppend (tFld K (tVar 0) f) (tCons te tNil) σ H Q :=
  ⟨_, hs, x, C, dx, fs, .ref p, rfl, hx, hc, hn, hl, .inl ⟨rfl, vs, .of hp⟩, q⟩
theorem appI {x q0 a : Addr} {C dx : Addr} {f : Str} {fs : List (Str × V)} {H : Hp} {σ : L2.St} {vs ls : List V} {i j t : Nat} {v : V} {Q : VK} (hs : σ[0]? = some (some (V.ref x))) (hx : H x = some (.ins C dx fs)) (hc : Cls K C) (hn : NoAttr K C f) (hl : fs.lookup f = some (.ref q0)) (hq : H q0 = some (.lst ls))
    (hi : σ[i]? = some (some (V.int t))) (ha : ls[t]? = some (V.ref a)) (hp : H a = some (.lst vs)) (hj : σ[j]? = some (some v)) (hz : vs.length < sizeLine) (q : Q .non (upd H a (.lst (vs ++ [v])))) :
    tBM K "list" rAppend (tOp (rIxL K) (tFld K (tVar 0) f) (tVar i)) (tCons (tVar j) tNil) σ H Q :=
  ⟨_, hs, x, C, dx, fs, .ref q0, rfl, hx, hc, hn, hl, _, hi, q0, ls, t, .ref a, rfl, rfl, .of hq, L2.atI_nat ha, .inl ⟨rfl, vs, .of hp⟩, v, hj, a, vs, v, rfl, rfl, hp, hz, q⟩
/-- one edge is laid -/
theorem body_core {Γ : Tb} {C x dx p q e : Addr} {ls : List Addr} {n i t h : Nat} {ws : List V} {ps : List (Int × Int)} {pd : List D} {at' : Nat → List Int} {F H : Hp} {σ : L2.St} {D0 : Ends} (hc : Cls K C) (n1 : NoAttr K C "_pairs") (n2 : NoAttr K C "_at") (s : Sg σ x e n (some ((i : Int), (t : Int), (h : Int))))
    (G : Gi cl K C x dx p q e ls n ws pd at' F H) (r : Reps cl K F ws (ps.map pairD)) (ht : t < n) (hh : h < n) (z1 : pd.length < line) (z2 : ∀ v, (at' v).length + 1 < line)
    (nx : ∀ F' H', Same F F' → (∀ a, F' a ≠ none → F a = none → H a = none) → (∀ a o, H a = some o → a ≠ p → a ∉ ls → H' a = some o) → Gi cl K C x dx p q e ls n ws (pd ++ [pairD (t, h)]) (fun v => at' v ++ if (t : Int) = v ∨ (h : Int) = v then [(i : Int)] else []) F' H' → D0.nx σ H') :
    (tSeq (tIfS (tB' Γ cl K W bG2) tNever tNext) (tSeq (tDrop (tBM K "list" rAppend (tFld K (tVar 0) "_pairs") (tCons (tE Γ cl K W eG) tNil)))
      (tSeq (tDrop (tBM K "list" rAppend (tOp (rIxL K) (tFld K (tVar 0) "_at") (tVar 5)) (tCons (tVar 4) tNil)))
        (tIfS (tB' Γ cl K W bG3) (tDrop (tBM K "list" rAppend (tOp (rIxL K) (tFld K (tVar 0) "_at") (tVar 6)) (tCons (tVar 4) tNil))) tNext)))) D0 σ H := by
  obtain ⟨s4, s5, s6⟩ := s.so _ _ _ rfl
  refine testG G.he G.fh r s (t2 (Int.natCast_nonneg t) (by omega) (Int.natCast_nonneg h) (by omega)) fun F1 H1 g1 => ?_
  have G1 := G.mono g1.ff g1.fh g1.hh g1.fn
  have r1 := r.mono g1.ff
  obtain ⟨vs, hp, _⟩ := G1.hp
  refine appG s.s0 G1.hx hc n1 rfl hp ?_
  refine ⟨_, F1, _, fun rr _ => rr = .sh (pairD (t, h)), nEx, rlG G1.he G1.fh r1 s, ⟨show 2 ≤ line by decide, rfl⟩, fun rr ρ2 F2 v H2 z m2 R2 r2 => ?_, exl0⟩
  subst z
  have g2 := grow_of m2 R2
  have G2 := G1.mono g2.ff g2.fh g2.hh g2.fn
  have gg := g1.trans g2
  obtain ⟨vs2, hp2, rp2⟩ := G2.hp
  refine ⟨p, vs2, v, rfl, rfl, hp2, by rw [rp2.len, sizeLine_line]; exact z1, ?_⟩
  have G3 := G2.pair hp2 (show Rep cl K F2 v (pairD (t, h)) from r2)
  generalize eH3 : upd H2 p (.lst (vs2 ++ [v])) = H3 at G3
  have lt : t < ls.length := by rw [G.len]; exact ht
  have lh : h < ls.length := by rw [G.len]; exact hh
  have et : ls[t]? = some ls[t] := List.getElem?_eq_getElem lt
  have eh : ls[h]? = some ls[h] := List.getElem?_eq_getElem lh
  refine appI (t := t) s.s0 G3.hx hc n2 rfl G3.hq s5 (by rw [List.getElem?_map, et] <;> rfl) (G3.hl t _ et) s4 (by rw [List.length_map, sizeLine_line]; have := z2 t; omega) ?_
  have G4 := G3.more (i := (i : Int)) et
  have eH4 : (at' t).map V.int ++ [V.int (i : Int)] = (at' t ++ [(i : Int)]).map V.int := by rw [List.map_append] <;> rfl
  rw [eH4]
  generalize eH : upd H3 ls[t] (.lst ((at' t ++ [(i : Int)]).map V.int)) = H4 at G4
  have keep4 : ∀ a o, H a = some o → a ≠ p → a ∉ ls → H4 a = some o := fun a o e1 e2 e3 => by
    rw [← eH, upd_ne (fun y => e3 (by rw [y]; exact List.getElem_mem lt)), ← eH3, upd_ne e2]
    exact gg.hh _ _ e1
  refine testG (v := !decide ((h : Int) = (t : Int))) G4.he G4.fh (r1.mono g2.ff) s t3 fun F5 H5 g5 => ?_
  have G5 := G4.mono g5.ff g5.fh g5.hh g5.fn
  have fn5 : ∀ a, F5 a ≠ none → F a = none → H a = none := fun a e1 e2 => by
    cases y : F2 a with
    | some u => exact gg.fn a (by rw [y]; simp) e2
    | none =>
      have h4 := g5.fn a e1 y
      cases w : H a with
      | none => rfl
      | some o =>
        have e3 : H2 a = some o := gg.hh _ _ w
        exfalso
        rw [← eH] at h4
        by_cases y1 : a = ls[t]
        · rw [y1, upd_same] at h4
          cases h4
        · rw [upd_ne y1, ← eH3] at h4
          by_cases y2 : a = p
          · rw [y2, upd_same] at h4
            cases h4
          · rw [upd_ne y2, e3] at h4
            cases h4
  by_cases hth : (h : Int) = (t : Int)
  · rw [decide_eq_true hth]
    refine nx F5 H5 (gg.ff.trans g5.ff) fn5 (fun a o e1 e2 e3 => g5.hh _ _ (keep4 a o e1 e2 e3)) ?_
    have : (fun w => if w = t then at' w ++ [(i : Int)] else at' w) = fun v => at' v ++ if (t : Int) = v ∨ (h : Int) = v then [(i : Int)] else [] := by
      funext w
      by_cases y : w = t
      · rw [if_pos y, if_pos (.inl (by omega))]
      · rw [if_neg y, if_neg (by omega), List.append_nil]
    rw [← this]
    exact G5
  · rw [decide_eq_false hth]
    have ne : h ≠ t := fun y => hth (by rw [y])
    refine appI (t := h) s.s0 G5.hx hc n2 rfl G5.hq s6 (by rw [List.getElem?_map, eh] <;> rfl) (G5.hl h _ eh) s4 (by rw [List.length_map, if_neg ne, sizeLine_line]; have := z2 h; omega) ?_
    have G6 := G5.more (i := (i : Int)) eh
    have e6 : ((if h = t then at' h ++ [(i : Int)] else at' h).map V.int ++ [V.int (i : Int)]) = ((if h = t then at' h ++ [(i : Int)] else at' h) ++ [(i : Int)]).map V.int := by rw [List.map_append] <;> rfl
    rw [e6]
    refine nx F5 _ (gg.ff.trans g5.ff) fn5 (fun a o e1 e2 e3 => ?_) ?_
    · rw [upd_ne (fun y => e3 (by rw [y]; exact List.getElem_mem lh))]
      exact g5.hh _ _ (keep4 a o e1 e2 e3)
    · have : (fun w => if w = h then (if w = t then at' w ++ [(i : Int)] else at' w) ++ [(i : Int)] else if w = t then at' w ++ [(i : Int)] else at' w) = fun v => at' v ++ if (t : Int) = v ∨ (h : Int) = v then [(i : Int)] else [] := by
        funext w
        by_cases y : w = h
        · rw [if_pos y, if_neg (by omega), if_pos (.inr (by omega))]
        · rw [if_neg y]
          by_cases y2 : w = t
          · rw [if_pos y2, if_pos (.inl (by omega))]
          · rw [if_neg y2, if_neg (by omega), List.append_nil]
      rw [← this]
      exact G6
end
end M
set_option linter.all false
set_option Elab.async false
set_option maxRecDepth 10000
/-! GraphD: Graph.__init__ as a whole. -/
namespace M
open PySem PySem.Spec PyProof.Rows L2
section
variable {cl : Str → Addr → Prop} {K : PySem.W.Frag} {W : WX}
theorem wipe_put {σ : L2.St} {x : V} : wipe ((wipe σ [3]).set 3 (some x)) [3] = wipe σ [3] :=
  ((only_set (σ := wipe σ [3]) (i := 3) (x := some x)).2 [3] fun i h => h).trans wipe_wipe
/-- n new lists in a new list -/
theorem lists_core {σ : L2.St} {H : Hp} {n : Nat} {Q : VK} (s1 : σ[1]? = some (some (V.int n))) (hn : n < line)
    (q : ∀ (q0 : Addr) (ls : List Addr) (H' : Hp), H q0 = none → ls.length = n → ls.Nodup → q0 ∉ ls → (∀ a ∈ ls, H a = none ∧ H' a = some (.lst [])) → H' q0 = some (.lst (ls.map V.ref)) → Same H H' → Q (.ref q0) H') :
    tLc (iRng1 (tCons (tVar 1) tNil)) (gName 3) tYes (tLst tNil) [3] σ H Q := by
  have hb : line < 2 ^ 62 := by decide
  refine ⟨_, s1, n, rfl, by omega, by omega, fun q0 h0 => ?_⟩
  refine lc_range (lo := 0) (n := (n : Int).toNat) (H1 := H) (Qd := fun H' => Q (.ref q0) H') (fun i H' => ∃ ls : List Addr, ls.length = i ∧ ls.Nodup ∧ q0 ∉ ls ∧ (∀ a ∈ ls, H a = none ∧ H' a = some (.lst [])) ∧ H' q0 = some (.lst (ls.map V.ref)) ∧ Same H H') ?_ (fun i H' hi P => ?_) fun H' P => ?_
  · exact ⟨[], rfl, List.nodup_nil, List.not_mem_nil, fun a h => (by cases h), upd_same, Same.upd h0⟩
  · obtain ⟨ls, l1, l2, l3, l4, l5, l6⟩ := P
    refine ⟨wipe_put, ?_⟩
    unfold tYes
    dsimp only
    rw [if_pos (rfl : true = true)]
    refine ⟨by decide, fun p hp => ⟨ls.map V.ref, ?_, by rw [List.length_map, sizeLine_line]; omega, ls ++ [p], by rw [List.length_append, l1] <;> rfl, ?_, ?_, fun a ha => ?_, ?_, ?_⟩⟩
    · have : q0 ≠ p := fun z => by
        rw [← z, l5] at hp
        cases hp
      rw [upd_ne this]
      exact l5
    · refine List.nodup_append.mpr ⟨l2, by simp, fun a ha b hb z => ?_⟩
      simp only [List.mem_singleton] at hb
      have := (l4 a ha).2
      rw [z, hb, hp] at this
      cases this
    · rw [List.mem_append]
      rintro (z | z)
      · exact l3 z
      · simp only [List.mem_singleton] at z
        rw [← z, l5] at hp
        cases hp
    · have hH : ∀ b o, H b = some o → b ≠ p := fun b o e z => by
        have := l6 b o e
        rw [z, hp] at this
        cases this
      have nq : a ≠ q0 := by
        rcases List.mem_append.mp ha with z | z
        · exact fun y => l3 (by rw [← y]; exact z)
        · simp only [List.mem_singleton] at z
          exact fun y => by
            rw [← z, y, l5] at hp
            cases hp
      rw [upd_ne nq]
      rcases List.mem_append.mp ha with z | z
      · obtain ⟨a1, a2⟩ := l4 a z
        have : a ≠ p := fun y => by
          rw [y, hp] at a2
          cases a2
        rw [upd_ne this]
        exact ⟨a1, a2⟩
      · simp only [List.mem_singleton] at z
        subst z
        rw [upd_same]
        refine ⟨?_, rfl⟩
        cases y : H a with
        | none => rfl
        | some o => exact absurd rfl (hH a o y)
    · rw [upd_same, List.map_append] <;> rfl
    · intro b o e
      have b1 : b ≠ q0 := fun z => by
        rw [z, h0] at e
        cases e
      have b2 : b ≠ p := fun z => by
        have := l6 b o e
        rw [z, hp] at this
        cases this
      rw [upd_ne b1, upd_ne b2]
      exact l6 b o e
  · obtain ⟨ls, l1, l2, l3, l4, l5, l6⟩ := P
    exact q q0 ls H' h0 (by rw [l1]; omega) l2 l3 l4 l5 l6
/-- the loop's names are bound -/
theorem sg_of {F H : Hp} {e x : Addr} {he : H e ≠ none} {σ σ' : L2.St} {n : Nat} {ps : List (Int × Int)} {i t h : Int} (s : Sg σ x e n none) (R : Rl cl K (cc F H e he) F (rhoG n ps (some (i, t, h))) σ' H) (o : Only (tIx tgG) σ σ') : Sg σ' x e n (some (i, t, h)) := by
  have far : ∀ j, j < 4 → σ'[j]? = σ[j]? := fun j hj => by
    have e1 : (wipe σ' [4, 5, 6])[j]? = (wipe σ [4, 5, 6])[j]? := by rw [o.2 [4, 5, 6] fun i hi => hi]
    rw [wipe_get, wipe_get, if_neg (by simp; omega), if_neg (by simp; omega)] at e1
    exact e1
  have int : ∀ (j : Nat) (i : Int), (rhoG n ps (some (i, t, h)))[j]? = some (.sh (.int i)) → True := fun _ _ _ => trivial
  refine ⟨o.1.trans s.len, (far 0 (by omega)).trans s.s0, (far 1 (by omega)).trans s.s1, (far 2 (by omega)).trans s.s2, fun i' t' h' z => ?_⟩
  cases z
  obtain ⟨x4, e4, r4⟩ := R.sl 4 _ rfl
  obtain ⟨x5, e5, r5⟩ := R.sl 5 _ rfl
  obtain ⟨x6, e6, r6⟩ := R.sl 6 _ rfl
  cases r4
  cases r5
  cases r6
  exact ⟨e4, e5, e6⟩
/-- all edges are laid -/
theorem loop_core {Γ : Tb} {C x dx p q e : Addr} {ls : List Addr} {n : Nat} {ws : List V} {ps : List (Int × Int)} {F H0 H : Hp} {σ : L2.St} {D0 : Ends} (hc : Cls K C) (n1 : NoAttr K C "_pairs") (n2 : NoAttr K C "_at") (s : Sg σ x e n none) (r : Reps cl K F ws (ps.map pairD)) (ok : okG n ps) (hz : ps.length < line)
    (hp : H0 p = none) (hls : ∀ a ∈ ls, H0 a = none) (k0 : ∀ a o, H0 a = some o → a ≠ x → H a = some o) (G : Gi cl K C x dx p q e ls n ws [] (fun _ => []) F H)
    (nx : ∀ F' H' σ', Same F F' → (∀ a, F' a ≠ none → F a = none → H0 a = none) → (∀ a o, H0 a = some o → a ≠ x → H' a = some o) → Gi cl K C x dx p q e ls n ws (ps.map pairD) (fun v => atG 0 ps v) F' H' → D0.nx σ' H') :
    tFor (iEnum K (tCons (tVar 2) tNil)) (tG cl K tgG) (tSeq (tIfS (tB' Γ cl K W bG2) tNever tNext) (tSeq (tDrop (tBM K "list" rAppend (tFld K (tVar 0) "_pairs") (tCons (tE Γ cl K W eG) tNil)))
      (tSeq (tDrop (tBM K "list" rAppend (tOp (rIxL K) (tFld K (tVar 0) "_at") (tVar 5)) (tCons (tVar 4) tNil)))
        (tIfS (tB' Γ cl K W bG3) (tDrop (tBM K "list" rAppend (tOp (rIxL K) (tFld K (tVar 0) "_at") (tVar 6)) (tCons (tVar 4) tNil))) tNext)))) D0 σ H := by
  refine ⟨_, s.s2, e, ws, rfl, .of G.he, ?_⟩
  refine ⟨fun i m σ H => m = ps.length - i ∧ i ≤ ps.length ∧ Sg σ x e n none ∧ ∃ F', Same F F' ∧ (∀ a, F' a ≠ none → F a = none → H0 a = none) ∧ (∀ a o, H0 a = some o → a ≠ x → H a = some o) ∧ Gi cl K C x dx p q e ls n ws ((ps.take i).map pairD) (fun v => atG 0 (ps.take i) v) F' H,
    ⟨ps.length, rfl, Nat.zero_le _, s, F, Same.refl F, fun a h1 h2 => absurd h2 h1, k0, by rw [List.take_zero]; exact G⟩, ?_⟩
  rintro i m σ1 H1 ⟨rfl, hle, s1, F1, m1, f1, k1, G1⟩
  have wl : ws.length = ps.length := by rw [r.len, List.length_map]
  by_cases hlt : i < ps.length
  · have ep : ps[i]? = some ps[i] := List.getElem?_eq_getElem hlt
    have hok := ok ps[i] (List.getElem_mem hlt)
    have es : ps.take (i + 1) = ps.take i ++ [ps[i]] := List.take_succ_eq_append_getElem hlt
    generalize ps[i] = pr at ep hok es
    obtain ⟨t0, h0⟩ := pr
    obtain ⟨b1, b2, b3, b4⟩ := hok
    obtain ⟨t, rfl⟩ := Int.eq_ofNat_of_zero_le b1
    obtain ⟨h, rfl⟩ := Int.eq_ofNat_of_zero_le b3
    have ed : (ps.map pairD)[i]? = some (pairD ((t : Int), (h : Int))) := by rw [List.getElem?_map, ep] <;> rfl
    obtain ⟨v, ev, rv⟩ := r.get ed
    refine .inr ⟨⟨ws, v, .of G1.he, ev⟩, fun σ' H' => _, fun σ' H' nx => ⟨ps.length - (i + 1), by omega, nx⟩, fun y H2 yy => ?_⟩
    obtain ⟨T0, w, rfl, hT, rfl, hw⟩ := yy
    have ew := hw ws (.of G1.he)
    rw [ev] at ew
    cases ew
    have fT : F1 T0 = none := by
      cases z : F1 T0 with
      | none => rfl
      | some u =>
        rw [G1.fh _ _ z] at hT
        cases hT
    have mF : Same F1 (upd F1 T0 (.tup [.int (i : Nat), v])) := Same.upd fT
    have m2 : Same (upd F1 T0 (.tup [.int (i : Nat), v])) (upd H1 T0 (.tup [.int (i : Nat), v])) := fun a u e1 => by
      by_cases z : a = T0
      · rw [z, upd_same] at e1 ⊢
        exact e1
      · rw [upd_ne z] at e1 ⊢
        exact G1.fh _ _ e1
    have f2 : ∀ a, upd F1 T0 (.tup [.int (i : Nat), v]) a ≠ none → F1 a = none → H1 a = none := fun a e1 e2 => by
      by_cases z : a = T0
      · rw [z]
        exact hT
      · rw [upd_ne z] at e1
        exact absurd e2 e1
    have G2 := G1.mono mF m2 (Same.upd hT) f2
    have r2 := (r.mono m1).mono mF
    refine ⟨_, _, rhoG n ps none, .tup [.int (i : Nat), pairD ((t : Int), (h : Int))], fun ρ' => ρ' = rhoG n ps (some ((i : Int), (t : Int), (h : Int))), rlG G2.he G2.fh r2 s1, .tup upd_same (.cons (.int _) (.cons ((rv.mono m1).mono mF) .nil)), ⟨rfl, rfl, rfl, rfl, rfl, rfl⟩, fun ρ' σ2 z R o => ?_⟩
    subst z
    have s2 := sg_of s1 R o
    have nat : (n : Int) = (n : Int) := rfl
    refine body_core hc n1 n2 s2 G2 r2 (by omega) (by omega) (by rw [List.length_map]; exact Nat.lt_of_le_of_lt (by rw [List.length_take]; exact Nat.min_le_right _ _) hz) (fun v => ?_) fun F3 H3 m3 f3 k3 G3 => ?_
    · have := atG_len v 0 (ps.take i)
      rw [List.length_take] at this
      omega
    · refine ⟨rfl, hlt, ⟨s2.len, s2.s0, s2.s1, s2.s2, fun _ _ _ z => (by cases z)⟩, F3, (m1.trans mF).trans m3, fun a e1 e2 => ?_, fun a o e1 e2 => ?_, ?_⟩
      · have up : ∀ o, H0 a = some o → a ≠ x → (upd H1 T0 (.tup [.int (i : Nat), v])) a = some o := fun o e3 e4 => Same.upd hT _ _ (k1 a o e3 e4)
        cases y : H0 a with
        | none => rfl
        | some o =>
          exfalso
          have nex : a ≠ x := fun z => by
            have fx := G3.fx
            rw [z] at e1
            exact e1 fx
          cases y2 : upd F1 T0 (.tup [.int (i : Nat), v]) a with
          | none =>
            have := f3 a e1 y2
            rw [up o y nex] at this
            cases this
          | some u =>
            cases y3 : F1 a with
            | some u' =>
              have := f1 a (by rw [y3]; simp) e2
              rw [y] at this
              cases this
            | none =>
              have := f2 a (by rw [y2]; simp) y3
              rw [k1 a o y nex] at this
              cases this
      · refine k3 a o (Same.upd hT _ _ (k1 a o e1 e2)) (fun z => ?_) fun z => ?_
        · rw [z, hp] at e1
          cases e1
        · rw [hls a z] at e1
          cases e1
      · rw [es, List.map_append]
        have ef : (fun (v : Nat) => atG 0 (ps.take i) v ++ if (t : Int) = v ∨ (h : Int) = v then [(i : Int)] else []) = fun (v : Nat) => atG 0 (ps.take i ++ [((t : Int), (h : Int))]) v := by
          funext v
          rw [atG_snoc, Nat.zero_add, List.length_take, Nat.min_eq_left (Nat.le_of_lt hlt)]
        rw [← ef]
        exact G3
  · have e1 : i = ps.length := by omega
    subst e1
    rw [List.take_length] at G1
    exact .inl ⟨⟨ws, .of G1.he, by rw [wl]; exact Nat.le_refl _⟩, nx F1 H1 σ1 m1 f1 k1 G1⟩
end
end M
set_option linter.all false
set_option Elab.async false
set_option maxRecDepth 10000
/-! GraphE: Graph(..): the class's promise. -/
namespace M
open PySem PySem.Spec PyProof.Rows L2 C8
section
variable {cl : Str → Addr → Prop} {K : PySem.W.Frag} {W : WX}
/-- what __init__ promises -/
def spInit (cl : Str → Addr → Prop) (K : PySem.W.Frag) : Sp := fun vs H Q _ => ∃ (C x dx e : Addr) (n : Nat) (ps : List (Int × Int)) (ws : List V) (F : Hp), vs = [.ref x, .int n, .ref e] ∧ cl "Graph" C ∧ Same F H ∧ F x = none ∧ H x = some (.ins C dx []) ∧ H e = some (.lst ws) ∧ Reps cl K F ws (ps.map pairD) ∧ okG n ps ∧ n < line ∧ ps.length < line ∧
  ∀ F' H', Same F F' → Same F' H' → (∀ a, F' a ≠ none → F a = none → H a = none ∨ a = x) → (∀ a o, H a = some o → a ≠ x → H' a = some o) → Rep cl K F' (.ref x) (graphD n ps) → Q .non H'
theorem init_core {Γ : Tb} {C x dx e : Addr} {n : Nat} {ws : List V} {ps : List (Int × Int)} {F H : Hp} {σ : L2.St} {D0 : Ends} (hc : Cls K C) (n0 : NoAttr K C "_many") (n1 : NoAttr K C "_pairs") (n2 : NoAttr K C "_at") (s : Sg σ x e n none) (m : Same F H) (fx : F x = none) (hx : H x = some (.ins C dx [])) (he : H e = some (.lst ws))
    (r : Reps cl K F ws (ps.map pairD)) (ok : okG n ps) (hn : n < line) (hz : ps.length < line) (hcl : cl "Graph" C)
    (nx : ∀ F' H' σ', Same F F' → Same F' H' → (∀ a, F' a ≠ none → F a = none → H a = none ∨ a = x) → (∀ a o, H a = some o → a ≠ x → H' a = some o) → Rep cl K F' (.ref x) (graphD n ps) → D0.nx σ' H') : tInit Γ cl K W D0 σ H := by
  have ex : e ≠ x := fun z => by
    rw [z, hx] at he
    cases he
  refine testG he m r s t1 fun F1 H1 g1 => ?_
  refine ⟨_, s.s1, _, s.s0, x, C, dx, [], rfl, g1.hh _ _ hx, hc, n0, by decide, ?_⟩
  have eH2 : putF "_many" (V.int n) [] = [(("_many" : Str), V.int n)] := rfl
  rw [eH2]
  generalize e2 : upd H1 x (.ins C dx [(("_many" : Str), V.int n)]) = H2
  have x2 : H2 x = some (.ins C dx [(("_many" : Str), V.int n)]) := by rw [← e2, upd_same]
  have k2 : ∀ a o, H a = some o → a ≠ x → H2 a = some o := fun a o h1 h2 => by
    rw [← e2, upd_ne h2]
    exact g1.hh _ _ h1
  have fr2 : ∀ a, H2 a = none → H1 a = none := fun a h => by
    rw [← e2] at h
    by_cases z : a = x
    · rw [z, upd_same] at h
      cases h
    · rw [upd_ne z] at h
      exact h
  refine ⟨by decide, fun p hp => ⟨_, s.s0, x, C, dx, [(("_many" : Str), V.int n)], rfl, ?_, hc, n1, (by show (1 : Nat) < 1000; decide), ?_⟩⟩
  · rw [upd_ne (fun z => by rw [← z, x2] at hp; cases hp)]
    exact x2
  have px : p ≠ x := fun z => by
    rw [z, x2] at hp
    cases hp
  have pe : p ≠ e := fun z => by
    rw [z, k2 e _ he ex] at hp
    cases hp
  have eH3 : putF "_pairs" (V.ref p) [(("_many" : Str), V.int n)] = [(("_many" : Str), V.int n), (("_pairs" : Str), V.ref p)] := by
    unfold putF
    rw [if_neg (by decide +kernel)] <;> rfl
  rw [eH3]
  generalize e3 : upd (upd H2 p (.lst [])) x (.ins C dx [(("_many" : Str), V.int n), (("_pairs" : Str), V.ref p)]) = H3
  have x3 : H3 x = some (.ins C dx [(("_many" : Str), V.int n), (("_pairs" : Str), V.ref p)]) := by rw [← e3, upd_same]
  have p3 : H3 p = some (.lst []) := by rw [← e3, upd_ne px, upd_same]
  have k3 : ∀ a o, H a = some o → a ≠ x → H3 a = some o := fun a o h1 h2 => by
    have := k2 a o h1 h2
    rw [← e3, upd_ne h2, upd_ne (fun z => by rw [z, hp] at this; cases this)]
    exact this
  have fr3 : ∀ a, H3 a = none → H1 a = none ∧ H a = none := fun a h => by
    have nx : a ≠ x := fun z => by
      rw [z, x3] at h
      cases h
    have np : a ≠ p := fun z => by
      rw [z, p3] at h
      cases h
    rw [← e3, upd_ne nx, upd_ne np] at h
    have h1 := fr2 a h
    refine ⟨h1, ?_⟩
    cases y : H a with
    | none => rfl
    | some o =>
      rw [g1.hh _ _ y] at h1
      cases h1
  dsimp only [tSeq, sFld]
  refine lists_core s.s1 hn fun q0 ls H4 hq0 l1 l2 l3 l4 l5 l6 => ⟨_, s.s0, x, C, dx, [(("_many" : Str), V.int n), (("_pairs" : Str), V.ref p)], rfl, l6 _ _ x3, hc, n2, (by show (2 : Nat) < 1000; decide), ?_⟩
  have eH5 : putF "_at" (V.ref q0) [(("_many" : Str), V.int n), (("_pairs" : Str), V.ref p)] = [(("_many" : Str), V.int n), (("_pairs" : Str), V.ref p), (("_at" : Str), V.ref q0)] := by
    unfold putF
    rw [if_neg (by decide +kernel)]
    unfold putF
    rw [if_neg (by decide +kernel)] <;> rfl
  rw [eH5]
  have qx : q0 ≠ x := fun z => by
    rw [z, x3] at hq0
    cases hq0
  have qe : q0 ≠ e := fun z => by
    rw [z, k3 e _ he ex] at hq0
    cases hq0
  have qp : q0 ≠ p := fun z => by
    rw [z, p3] at hq0
    cases hq0
  have lfar : ∀ a ∈ ls, a ≠ x ∧ a ≠ e ∧ a ≠ p := fun a ha => by
    have h := (l4 a ha).1
    refine ⟨fun z => ?_, fun z => ?_, fun z => ?_⟩
    · rw [z, x3] at h
      cases h
    · rw [z, k3 e _ he ex] at h
      cases h
    · rw [z, p3] at h
      cases h
  have fF : ∀ a, H1 a = none → F1 a = none := fun a h => by
    cases y : F1 a with
    | none => rfl
    | some u =>
      rw [g1.fh _ _ y] at h
      cases h
  have F1x : F1 x = none := by
    cases y : F1 x with
    | none => rfl
    | some u =>
      have := g1.fn x (by rw [y]; simp) fx
      rw [hx] at this
      cases this
  have k5 : ∀ a o, H a = some o → a ≠ x → upd H4 x (.ins C dx [(("_many" : Str), V.int n), (("_pairs" : Str), V.ref p), (("_at" : Str), V.ref q0)]) a = some o := fun a o h1 h2 => by
    rw [upd_ne h2]
    exact l6 _ _ (k3 a o h1 h2)
  have G : Gi cl K C x dx p q0 e ls n ws [] (fun _ => []) F1 (upd H4 x (.ins C dx [(("_many" : Str), V.int n), (("_pairs" : Str), V.ref p), (("_at" : Str), V.ref q0)])) := by
    refine ⟨fun a u h => ?_, upd_same, k5 e _ he ex, ⟨[], by rw [upd_ne px]; exact l6 _ _ p3, .nil⟩, by rw [upd_ne qx]; exact l5, l1, fun v a ha => ?_, l2, F1x, fF p (fr2 p hp), fF q0 (fr3 q0 hq0).1, fun a ha => fF a (fr3 a (l4 a ha).1).1, px, pe, fun z => qp z.symm, fun z => (lfar p z).2.2 rfl, fun z => (lfar x z).1 rfl, fun z => (lfar e z).2.1 rfl, l3⟩
    · have nx : a ≠ x := fun z => by
        rw [z, F1x] at h
        cases h
      have h1 := g1.fh _ _ h
      rw [upd_ne nx]
      refine l6 _ _ ?_
      rw [← e3, upd_ne nx]
      have h2 : H2 a = some u := by
        rw [← e2, upd_ne nx]
        exact h1
      rw [upd_ne (fun z => by rw [z, hp] at h2; cases h2)]
      exact h2
    · have mem := List.mem_of_getElem? ha
      rw [upd_ne (lfar a mem).1]
      exact (l4 a mem).2
  refine loop_core (H0 := H) hc n1 n2 s (r.mono g1.ff) ok hz ?_ (fun a ha => (fr3 a (l4 a ha).1).2) k5 G fun F' H' σ' m' f' k' G' => ?_
  · cases y : H p with
    | none => rfl
    | some o =>
      rw [k2 p o y px] at hp
      cases hp
  · obtain ⟨F2, m2, h2, r2, f2⟩ := G'.done hcl
    refine nx F2 H' σ' ((g1.ff.trans m').trans m2) h2 (fun a e1 e2 => ?_) k' r2
    cases y : F' a with
    | some u =>
      cases y1 : F1 a with
      | some u1 => exact .inl (g1.fn a (by rw [y1]; simp) e2)
      | none => exact .inl (f' a (by rw [y]; simp) y1)
    | none =>
      rcases f2 a e1 y with z | z | z | z
      · exact .inr z
      · refine .inl ?_
        rw [z]
        cases y2 : H p with
        | none => rfl
        | some o =>
          rw [k2 p o y2 px] at hp
          cases hp
      · refine .inl ?_
        rw [z]
        exact (fr3 q0 hq0).2
      · exact .inl (fr3 a (l4 a z).1).2
/-- Graph.__init__ -/
theorem graph_init {P : Program} {w : World} {mg : Str → Option Value} {base : Heap} {k : Nat} {x qn : Str} {pa : Arguments} {bd : List Stmt} {sco : Scope} {dv : List V} {kw : List (Str × V)} {f : Addr} {fd : FuncData} (F : FunD K x qn pa bd sco dv kw f fd)
    (hs : scC ["self", "vertices", "edges", "vertex", "index", "tail", "head"] ["self", "vertices", "edges"] sco = true) (S : Sta P w K mg base tbN cl false k) (hc : ∀ C, cl "Graph" C → Cls K C ∧ NoAttr K C "_many" ∧ NoAttr K C "_pairs" ∧ NoAttr K C "_at")
    (ck : ckInit ["self", "vertices", "edges", "vertex", "index", "tail", "head"] sco bd = true) : FnOk P w K mg base (L2.CX P w) (k + 3) f fd ["self", "vertices", "edges"] (spInit cl K) := by
  obtain ⟨oc, od, dV, kV, doc, pm, an, cdv, ct, osl, rfl, lk, hcd, _, _⟩ := F.ex
  have len : ∀ vs H Q E, spInit cl K vs H Q E → vs.length = ["self", "vertices", "edges"].length := fun vs H Q E h => by
    obtain ⟨_, _, _, _, _, _, _, _, rfl, _⟩ := h
    rfl
  have sc := fnScope_by hs
  refine ⟨len, fun A ou s H ar us vs Q E hr e0 hb r h => code_of lk hcd sc hr e0 hb r (len _ _ _ _ h) ⟨_, init_ok (gd_of S sc.nd (fun z => by cases z) hr) ⟨rfl, rfl, fun _ => rfl, sc.kind⟩ (passes_of rfl) ck, ?_⟩⟩
  obtain ⟨C, x, dx, e, n, ps, ws, F, rfl, hcl, m, fx, hx, he, rs, ok, hn, hz, q⟩ := h
  obtain ⟨c1, c2, c3, c4⟩ := hc C hcl
  exact init_core c1 c2 c3 c4 ⟨rfl, rfl, rfl, rfl, fun _ _ _ z => (by cases z)⟩ m fx hx he rs ok hn hz hcl fun F' H' σ' a1 a2 a3 a4 a5 => q F' H' a1 a2 a3 a4 a5
/-- what a call of the class asks -/
theorem graph_mk : ∀ vs H Q E, spOf cl K mkG vs H Q E → ∀ C x dx, cl "Graph" C → H x = none → H dx = none → dx ≠ x → spInit cl K (.ref x :: vs) (upd (upd H dx (.own x)) x (.ins C dx [])) (fun v H2 => v = .non ∧ Q (.ref x) H2) E := by
  intro vs H Q E h C x dx hcl hx hdx hne
  obtain ⟨F, ds, Q1, X1, m, ar, _, _, sp, qr, _⟩ := h
  obtain ⟨n, ps, rfl, ok, hn, hz, z⟩ := sp
  have up : ∀ a o, H a = some o → upd (upd H dx (.own x)) x (.ins C dx []) a = some o := fun a o e => by
    rw [upd_ne (fun y => by rw [y, hx] at e; cases e), upd_ne (fun y => by rw [y, hdx] at e; cases e)]
    exact e
  have dn : ∀ a, upd (upd H dx (.own x)) x (.ins C dx []) a = none → H a = none := fun a e => by
    cases y : H a with
    | none => rfl
    | some o =>
      rw [up a o y] at e
      cases e
  cases ar with
  | cons r1 ar =>
    cases ar with
    | cons r2 ar =>
      cases ar
      cases (show Rep cl K F _ (.int n) from r1)
      obtain ⟨e, ws, rfl, he, rs⟩ := r2
      have fx : F x = none := by
        cases y : F x with
        | none => rfl
        | some u =>
          rw [m _ _ y] at hx
          cases hx
      refine ⟨C, x, dx, e, n, ps, ws, F, rfl, hcl, fun a u h => up a u (m _ _ h), fx, upd_same, up _ _ he, rs, ok, hn, hz, fun F' H' m1 m2 f2 k2 rg => ⟨rfl, ?_⟩⟩
      refine qr _ [] _ F' H' z ⟨m1, m2, fun a e1 e2 => ?_, fun a o h1 _ => k2 a o (up a o h1) (fun y => by rw [y, hx] at h1; cases h1), fun a ha => (by cases ha)⟩ rg .nil
      rcases f2 a e1 e2 with y | y
      · exact dn a y
      · rw [y]
        exact hx
end
end M
set_option linter.all false
set_option Elab.async false
set_option maxRecDepth 10000
/-! GraphF: len(graph), iter(graph). -/
namespace M
open PySem PySem.Spec PyProof.Rows L2 C8
def ckLen (N : List Str) (sc : Scope) (f : Str) (b : List Stmt) : Bool := match b with
  | [.Return (some (.Call (.Name r _) [a] [] _)) _] => decide (r = "len") && glo sc r && noStar a && ckFld N sc f a
  | _ => false
def ckIter (N : List Str) (sc : Scope) (f : Str) (b : List Stmt) : Bool := match b with
  | [.Return (some (.Call (.Name r _) [a] [] _)) _] => decide (r = "iter") && glo sc r && noStar a && ckFld N sc f a
  | _ => false
section
variable {cl : Str → Addr → Prop} {K : PySem.W.Frag} {P : Program} {w : World} {mg : Str → Option Value} {base : Heap} {k : Nat} {x qn : Str} {pa : Arguments} {bd : List Stmt} {sco : Scope} {dv : List V} {kw : List (Str × V)} {f : Addr} {fd : FuncData} {c fl : Str}
/-- __len__ -/
theorem own_len (F : FunD K x qn pa bd sco dv kw f fd) (hs : scC ["self"] ["self"] sco = true) (S : Sta P w K mg base tbN cl false k) (ck : ckLen ["self"] sco fl bd = true) : FnOk P w K mg base (L2.CX P w) (k + 3) f fd ["self"] (spLn K fl) := by
  obtain ⟨oc, od, dV, kV, doc, pm, an, cdv, ct, osl, rfl, lk, hcd, _, _⟩ := F.ex
  have sc := fnScope_by hs
  refine ⟨fun vs H Q E ⟨_, _, _, _, _, _, _, h, _⟩ => (by rw [h] <;> rfl), fun A ou s H ar us vs Q E hr e0 hb r h => ?_⟩
  obtain ⟨a, C, dx, fs, l, zs, ⟨c1, c2⟩, rfl, ha, hl, hq, q⟩ := h
  have G := gd_of (qn := qn) (sco := sco) (f := f) (cd := cdv) (ou := ou) (s := s) (H := H) (E := E) S sc.nd (fun z => by cases z) hr
  have V : Nv (cxOf (L2.CX P w) P w K mg base ["self"] qn sco f cdv A ou s H E) ["self"] sco fun _ => true := ⟨rfl, rfl, fun _ => rfl, sc.kind⟩
  refine code_of lk hcd sc hr e0 hb r rfl ?_
  unfold ckLen at ck
  split at ck
  · simp only [Bool.and_eq_true, decide_eq_true_eq] at ck
    obtain ⟨⟨⟨rfl, h1⟩, h2⟩, h3⟩ := ck
    exact ⟨_, pss_one (ps_ret (pe_callB call_len_seq (glo_ok V h1) (S.bn _ (by decide +kernel)) (by decide +kernel) (pa_cons (fldE_ok V h3) pa_nil (star_ok h2)) (by decide +kernel) (by decide +kernel) (star_ok h2) rfl)), _, rfl, a, C, dx, fs, .ref l, rfl, ha, c1, c2, hl, l, zs, rfl, .inl hq, q⟩
  · cases ck
/-- __iter__ -/
theorem own_iter (F : FunD K x qn pa bd sco dv kw f fd) (hs : scC ["self"] ["self"] sco = true) (S : Sta P w K mg base tbN cl false k) (ck : ckIter ["self"] sco fl bd = true) : ItOk P w K mg base (k + 3) f fd ["self"] fl := by
  obtain ⟨oc, od, dV, kV, doc, pm, an, cdv, ct, osl, rfl, lk, hcd, _, _⟩ := F.ex
  have sc := fnScope_by hs
  refine ⟨rfl, fun A ou s H ar us vs Q E hr e0 hb r h => ?_⟩
  obtain ⟨a, C, dx, fs, l, zs, ⟨c1, c2⟩, rfl, ha, hl, hq, q⟩ := h
  have G := gd_of (qn := qn) (sco := sco) (f := f) (cd := cdv) (ou := ou) (s := s) (H := H) (E := E) S sc.nd (fun z => by cases z) hr
  have V : Nv (cxOf (L2.CX P w) P w K mg base ["self"] qn sco f cdv A ou s H E) ["self"] sco fun _ => true := ⟨rfl, rfl, fun _ => rfl, sc.kind⟩
  refine code_of lk hcd sc hr e0 hb r rfl ?_
  unfold ckIter at ck
  split at ck
  · simp only [Bool.and_eq_true, decide_eq_true_eq] at ck
    obtain ⟨⟨⟨rfl, h1⟩, h2⟩, h3⟩ := ck
    exact ⟨_, pss_one (ps_ret (pe_callB ItX.call_iterN (glo_ok V h1) (S.bn _ (by decide +kernel)) (by decide +kernel) (pa_cons (fldE_ok V h3) pa_nil (star_ok h2)) (by decide +kernel) (by decide +kernel) (star_ok h2) rfl)), _, rfl, a, C, dx, fs, .ref l, rfl, ha, c1, c2, hl, l, zs, rfl, hq, q⟩
  · cases ck
end
end M
set_option linter.all false
set_option Elab.async false
set_option maxRecDepth 10000
/-! MiniX: steps on plain data. -/
namespace M
open PySem (Str PyData)
section
variable {Γ : Tb} {ρ : En} {i : Nat} {Q : QE} {X : QX} {c f m x : Str} {fs : List (Str × D)} {d : D} {as : Es} {fn : Fn}
theorem r_var (h : ρ[i]? = some (.sh d)) (q : Q (.sh d) ρ) : dE Γ (.var i) ρ Q X := by
  show (match ρ[i]? with
    | none => False
    | some .top => False
    | some (.sh d) => Q (.sh d) ρ
    | some (.bo _) => Q (.br i) ρ
    | some (.ow _) => Q (.br i) ρ
    | some (.io _) => Q (.br i) ρ
    | some (.dc _) => Q (.br i) ρ
    | some (.on _) => False
    | some (.al _ _ _) => Q (.br i) ρ
    | some (.bd _) => Q (.br i) ρ)
  rw [h]
  exact q
theorem r_call (h : Γ.f x = some fn) (q : dA Γ as ρ (fun rs ρ1 => dCall (some fn) rs ρ1 Q X) X) : dE Γ (.call x as) ρ Q X := by
  show dA Γ as ρ (fun rs ρ1 => dCall (Γ.f x) rs ρ1 Q X) X
  rw [h]
  exact q
theorem r_make (h : Γ.mke x = some fn) (q : dA Γ as ρ (fun rs ρ1 => dCall (some fn) rs ρ1 Q X) X) : dE Γ (.make x as) ρ Q X := by
  show dA Γ as ρ (fun rs ρ1 => dCall (Γ.mke x) rs ρ1 Q X) X
  rw [h]
  exact q
theorem r_attr (h : ρ[i]? = some (.sh (.ins c fs))) (hf : Γ.fld c f = true) (hl : fs.lookup f = some d) (q : Q (.sh d) ρ) : dE Γ (.attr (.var i) f) ρ Q X := by
  refine r_var (Γ := Γ) (X := X) (Q := fun ro ρ1 => wN (val ρ1 ro) fun c fs => Γ.fld c f = true ∧ w1 (fs.lookup f) fun d => Q (.sh d) ρ1) h ⟨hf, ?_⟩
  rw [hl]
  exact q
theorem r_prop (h : ρ[i]? = some (.sh (.ins c fs))) (hp : Γ.p c f = some fn) (q : dCall (some fn) [.sh (.ins c fs)] ρ Q nEx) : dE Γ (.prop (.var i) f) ρ Q X := by
  refine r_var (Γ := Γ) (X := X) (Q := fun ro ρ1 => wN (val ρ1 ro) fun c fs => dCall (Γ.p c f) [.sh (.ins c fs)] ρ1 Q nEx) h ?_
  show dCall (Γ.p c f) [.sh (.ins c fs)] ρ Q nEx
  rw [hp]
  exact q
theorem r_meth (h : ρ[i]? = some (.sh (.ins c fs))) (hl : fs.lookup m = none) (hm : Γ.m c m = some fn) (q : dA Γ as ρ (fun rs ρ2 => dCall (some fn) (.sh (.ins c fs) :: rs) ρ2 Q X) X) : dE Γ (.meth (.var i) m as) ρ Q X := by
  refine r_var (Γ := Γ) (X := X) (Q := fun ro ρ1 => wN (val ρ1 ro) fun c fs => fs.lookup m = none ∧ (Γ.m c m).isSome = true ∧ dA Γ as ρ1 (fun rs ρ2 => dCall (Γ.m c m) (.sh (.ins c fs) :: rs) ρ2 Q X) X) h ⟨hl, by rw [hm] <;> rfl, ?_⟩
  rw [hm]
  exact q
theorem r_leni {ds : List D} (h : ρ[i]? = some (.sh (.ins c fs))) (hi : Γ.itf c = some f) (hl : fs.lookup f = some (.lst ds)) (q : Q (.sh (.int ds.length)) ρ) : dE Γ (.leni (.var i)) ρ Q X := by
  refine r_var (Γ := Γ) (X := X) (Q := fun ra ρ1 => wN (val ρ1 ra) fun c fs => w1 (Γ.itf c) fun f => wL (fs.lookup f) fun ds => Q (.sh (.int ds.length)) ρ1) h ?_
  show w1 (Γ.itf c) fun f => wL (fs.lookup f) fun ds => Q (.sh (.int ds.length)) ρ
  rw [hi]
  show wL (fs.lookup f) fun ds => Q (.sh (.int ds.length)) ρ
  rw [hl]
  exact q
theorem r_isi (h : ρ[i]? = some (.sh (.ins c fs))) (hi : Γ.isn x = true) (q : Q (.sh (.bl (decide (c = x)))) ρ) : dE Γ (.isi (.var i) x) ρ Q X :=
  r_var (Γ := Γ) (X := X) (Q := fun ra ρ1 => wN (val ρ1 ra) fun c' _ => Γ.isn x = true ∧ Q (.sh (.bl (decide (c' = x)))) ρ1) h ⟨hi, q⟩
/-- walking an own thing -/
theorem r_items {ds : List D} {Q : List D → En → Prop} (hi : Γ.itf c = some f) (hl : fs.lookup f = some (.lst ds)) (q : Q ds ρ) : itemsR Γ ρ (.sh (.ins c fs)) Q := by
  show w1 (Γ.itf c) fun f => wL (fs.lookup f) fun ds => Q ds ρ
  rw [hi]
  show wL (fs.lookup f) fun ds => Q ds ρ
  rw [hl]
  exact q
end
theorem w1_at {α : Type} {o : Option α} {x : α} {k : α → Prop} (h : o = some x) (q : k x) : w1 o k := by
  rw [h]
  exact q
theorem wL_at {o : Option D} {x : List D} {k : List D → Prop} (h : o = some (.lst x)) (q : k x) : wL o k := by
  rw [h]
  exact q
theorem call_at {Γ : Tb} {o : Option Fn} {fn : Fn} {rs : List R} {ρ : En} {Q : QE} {X : QX} (h : o = some fn) (q : dCall (some fn) rs ρ Q X) : dCall o rs ρ Q X := by
  rw [h]
  exact q
theorem ite_t {c : Prop} [Decidable c] {A B : Prop} (h : c) (q : A) : ite c A B := by
  rw [if_pos h]
  exact q
theorem ite_f {c : Prop} [Decidable c] {A B : Prop} (h : ¬ c) (q : B) : ite c A B := by
  rw [if_neg h]
  exact q
/-! ### a graph's fields -/
def fldsG (n : Nat) (ps : List (Int × Int)) : List (Str × D) := [("_many", .int n), ("_pairs", .lst (ps.map pairD)), ("_at", .lst ((List.range n).map fun (v : Nat) => .lst ((atG 0 ps v).map D.int)))]
theorem graphD_eq (n : Nat) (ps : List (Int × Int)) : graphD n ps = .ins "Graph" (fldsG n ps) := rfl
section
variable {n : Nat} {ps : List (Int × Int)}
theorem lk1 : (fldsG n ps).lookup ("_many" : Str) = some (D.int n) := by
  unfold fldsG
  rw [List.lookup_cons, show (("_many" : Str) == "_many") = true from by decide +kernel]
theorem lk2 : (fldsG n ps).lookup ("_pairs" : Str) = some (D.lst (ps.map pairD)) := by
  unfold fldsG
  rw [List.lookup_cons, show (("_pairs" : Str) == "_many") = false from by decide +kernel]
  dsimp only
  rw [List.lookup_cons, show (("_pairs" : Str) == "_pairs") = true from by decide +kernel]
theorem lk3 : (fldsG n ps).lookup ("_at" : Str) = some (D.lst ((List.range n).map fun (v : Nat) => .lst ((atG 0 ps v).map D.int))) := by
  unfold fldsG
  rw [List.lookup_cons, show (("_at" : Str) == "_many") = false from by decide +kernel]
  dsimp only
  rw [List.lookup_cons, show (("_at" : Str) == "_pairs") = false from by decide +kernel]
  dsimp only
  rw [List.lookup_cons, show (("_at" : Str) == "_at") = true from by decide +kernel]
theorem lk0 {m : Str} (h : (m == ("_many" : Str)) = false) (h2 : (m == ("_pairs" : Str)) = false) (h3 : (m == ("_at" : Str)) = false) : (fldsG n ps).lookup m = none := by
  unfold fldsG
  rw [List.lookup_cons, h]
  dsimp only
  rw [List.lookup_cons, h2]
  dsimp only
  rw [List.lookup_cons, h3]
  rfl
end
/-- the graph's fields are told -/
structure FldG (Γ : Tb) : Prop where
  h1 : Γ.fld "Graph" "_many" = true
  h2 : Γ.fld "Graph" "_pairs" = true
  h3 : Γ.fld "Graph" "_at" = true
end M
set_option linter.all false
set_option Elab.async false
set_option maxRecDepth 10000
namespace M
open PySem (Str PyData)
/-- Graph.vertices: 0 self -/
def b_Graph_vertices : Ss :=
  (.cons (.ret (.attr (.var 0) "_many"))
  .nil)
def n_Graph_vertices : List Str := ["self"]
/-- Graph.edges: 0 self -/
def b_Graph_edges : Ss :=
  (.cons (.ret (.bi .list (.cons (.attr (.var 0) "_pairs") .nil)))
  .nil)
def n_Graph_edges : List Str := ["self"]
/-- Graph.__len__: 0 self -/
def b_Graph_len : Ss :=
  (.cons (.ret (.bi .len (.cons (.attr (.var 0) "_pairs") .nil)))
  .nil)
def n_Graph_len : List Str := ["self"]
/-- Graph.__eq__: 0 self 1 other -/
def b_Graph_eq : Ss :=
  (.cons (.iff (.not (.ex (.isi (.var 1) "Graph")))
   (.cons .dead
    .nil)
   .nil)
  (.cons (.ret (.and (.cons (.cmp .eq (.attr (.var 0) "_many") (.attr (.var 1) "_many")) (.cons (.cmp .eq (.attr (.var 0) "_pairs") (.attr (.var 1) "_pairs")) .nil))))
  .nil))
def n_Graph_eq : List Str := ["self", "other"]
/-- Graph.ends: 0 self 1 edge -/
def b_Graph_ends : Ss :=
  (.cons (.iff (.not (.chn .le .lt (.int 0) (.var 1) (.bi .len (.cons (.attr (.var 0) "_pairs") .nil))))
   (.cons .dead
    .nil)
   .nil)
  (.cons (.ret (.ix (.attr (.var 0) "_pairs") (.var 1)))
  .nil))
def n_Graph_ends : List Str := ["self", "edge"]
/-- Graph.edges_at: 0 self 1 vertex -/
def b_Graph_edges_at : Ss :=
  (.cons (.iff (.not (.chn .le .lt (.int 0) (.var 1) (.attr (.var 0) "_many")))
   (.cons .dead
    .nil)
   .nil)
  (.cons (.ret (.bi .list (.cons (.ix (.attr (.var 0) "_at") (.var 1)) .nil)))
  .nil))
def n_Graph_edges_at : List Str := ["self", "vertex"]
/-- Graph.degree: 0 self 1 vertex 2 edges 3 edge -/
def b_Graph_degree : Ss :=
  (.cons (.asg (.nm 2) (.meth (.var 0) "edges_at" (.cons (.var 1) .nil)))
  (.cons (.ret (.bin .add (.bi .len (.cons (.var 2) .nil)) (.bi .len (.cons (.lc (.var 3) (.nm 3) (.ex (.var 2)) (.cons (.cmp .eq (.ix (.ix (.attr (.var 0) "_pairs") (.var 3)) (.int 0)) (.ix (.ix (.attr (.var 0) "_pairs") (.var 3)) (.int 1))) .nil) [("edge", 3)]) .nil))))
  .nil))
def n_Graph_degree : List Str := ["self", "vertex", "edges", "edge"]
/-- Graph.turned: 0 self 1 edges 2 chosen 3 pairs 4 edge 5 tail 6 head -/
def b_Graph_turned : Ss :=
  (.cons (.asg (.nm 2) (.call "marked_edges" (.cons (.var 0) (.cons (.var 1) .nil))))
  (.cons (.asg (.nm 3) (.lc (.ife (.ex (.ix (.var 2) (.var 4))) (.tup (.cons (.var 6) (.cons (.var 5) .nil))) (.tup (.cons (.var 5) (.cons (.var 6) .nil)))) (.tp (.nm 4) (.tp (.tp (.nm 5) (.tp (.nm 6) .tz)) .tz)) (.enu (.attr (.var 0) "_pairs")) .nil [("edge", 4), ("tail", 5), ("head", 6)]))
  (.cons (.ret (.make "Graph" (.cons (.attr (.var 0) "_many") (.cons (.var 3) .nil))))
  .nil)))
def n_Graph_turned : List Str := ["self", "edges", "chosen", "pairs", "edge", "tail", "head"]
/-- Graph.without: 0 self 1 edges 2 chosen 3 edge 4 pair -/
def b_Graph_without : Ss :=
  (.cons (.asg (.nm 2) (.call "marked_edges" (.cons (.var 0) (.cons (.var 1) .nil))))
  (.cons (.ret (.make "Graph" (.cons (.attr (.var 0) "_many") (.cons (.lc (.var 4) (.tp (.nm 3) (.tp (.nm 4) .tz)) (.enu (.attr (.var 0) "_pairs")) (.cons (.not (.ex (.ix (.var 2) (.var 3)))) .nil) [("edge", 3), ("pair", 4)]) .nil))))
  .nil))
def n_Graph_without : List Str := ["self", "edges", "chosen", "edge", "pair"]
/-- marked_edges: 0 graph 1 edges 2 marks 3 edge -/
def b_marked_edges : Ss :=
  (.cons (.asg (.nm 2) (.bin .mul (.lst (.cons (.bl false) .nil)) (.leni (.var 0))))
  (.cons (.forr (.nm 3) (.ex (.var 1))
   (.cons (.iff (.not (.chn .le .lt (.int 0) (.var 3) (.leni (.var 0))))
     (.cons .dead
      .nil)
     .nil)
    (.cons (.set (.var 2) (.var 3) (.bl true))
    .nil)))
  (.cons (.ret (.var 2))
  .nil)))
def n_marked_edges : List Str := ["graph", "edges", "marks", "edge"]
/-- _law_cell: 0 script 1 k -/
def b_law_cell : Ss :=
  (.cons (.iff (.cmp .lt (.var 1) (.bi .len (.cons (.var 0) .nil)))
   (.cons (.ret (.ix (.var 0) (.var 1)))
    .nil)
   .nil)
  (.cons (.ret (.int 0))
  .nil))
def n_law_cell : List Str := ["script", "k"]
/-- _law_numbers: 0 cell 1 many 2 rest 3 whole 4 numbers 5 k 6 mixed -/
def b_law_numbers : Ss :=
  (.cons (.asg (.nm 2) (.bi .abs (.cons (.var 0) .nil)))
  (.cons (.asg (.nm 3) (.var 2))
  (.cons (.asg (.nm 4) (.lst .nil))
  (.cons (.forr (.nm 5) (.rng (.cons (.var 1) .nil))
   (.cons (.iff (.and (.cons (.cmp .ge (.var 3) (.bin .pow (.int 10) (.int 18))) (.cons (.cmp .gt (.var 2) (.int 0)) .nil)))
     (.cons (.app (.var 4) (.bin .mod (.bi .int (.cons (.var 2) .nil)) (.int 1000)))
      (.cons (.asg (.nm 2) (.bin .fdiv (.var 2) (.int 1000)))
      .nil))
     (.cons (.asg (.nm 6) (.bin .mod (.bi .int (.cons (.bin .add (.bin .add (.bin .mul (.var 3) (.int 48271)) (.bin .mul (.var 5) (.int 69621))) (.int 11)) .nil)) (.int 2147483647)))
      (.cons (.asg (.nm 6) (.bin .mod (.bi .int (.cons (.bin .add (.bin .add (.bin .mul (.var 6) (.var 6)) (.bin .mul (.int 40692) (.var 5))) (.int 3)) .nil)) (.int 2147483629)))
      (.cons (.app (.var 4) (.bin .mod (.bi .int (.cons (.bin .fdiv (.var 6) (.int 7)) .nil)) (.int 1000)))
      .nil))))
    .nil))
  (.cons (.ret (.var 4))
  .nil)))))
def n_law_numbers : List Str := ["cell", "many", "rest", "whole", "numbers", "k", "mixed"]
/-- _law_state: 0 script 1 start 2 many 3 numbers 4 k 5 cell -/
def b_law_state : Ss :=
  (.cons (.asg (.nm 3) (.lst .nil))
  (.cons (.forr (.nm 4) (.rng (.cons (.var 1) (.cons (.bin .add (.var 1) (.var 2)) .nil)))
   (.cons (.asg (.nm 5) (.call "_law_cell" (.cons (.var 0) (.cons (.var 4) .nil))))
    (.cons (.iff (.cmp .lt (.bi .abs (.cons (.var 5) .nil)) (.bin .pow (.int 10) (.int 18)))
     (.cons (.asg (.nm 5) (.bin .add (.bin .mul (.var 5) (.int 61)) (.var 4)))
      .nil)
     .nil)
    (.cons (.asg (.nm 3) (.bin .add (.var 3) (.call "_law_numbers" (.cons (.var 5) (.cons (.int 20) .nil)))))
    .nil))))
  (.cons (.ret (.lst (.cons (.var 3) (.cons (.int 0) .nil))))
  .nil)))
def n_law_state : List Str := ["script", "start", "many", "numbers", "k", "cell"]
/-- _law_next: 0 state 1 many 2 numbers 3 place -/
def b_law_next : Ss :=
  (.cons (.asg (.nm 2) (.ix (.var 0) (.int 0)))
  (.cons (.asg (.nm 3) (.ix (.var 0) (.int 1)))
  (.cons (.set (.var 0) (.int 1) (.bin .add (.var 3) (.int 1)))
  (.cons (.ret (.bin .mod (.bi .int (.cons (.bin .add (.ix (.var 2) (.bin .mod (.var 3) (.bi .len (.cons (.var 2) .nil)))) (.bin .mul (.bin .fdiv (.var 3) (.bi .len (.cons (.var 2) .nil))) (.int 7))) .nil)) (.var 1)))
  .nil))))
def n_law_next : List Str := ["state", "many", "numbers", "place"]
/-- _law_any_pairs: 0 state 1 many 2 most 3 k -/
def b_law_any_pairs : Ss :=
  (.cons (.iff (.cmp .eq (.var 1) (.int 0))
   (.cons (.ret (.lst .nil))
    .nil)
   .nil)
  (.cons (.ret (.lc (.tup (.cons (.call "_law_next" (.cons (.var 0) (.cons (.var 1) .nil))) (.cons (.call "_law_next" (.cons (.var 0) (.cons (.var 1) .nil))) .nil))) (.nm 3) (.rng (.cons (.call "_law_next" (.cons (.var 0) (.cons (.bin .add (.var 2) (.int 1)) .nil))) .nil)) .nil [("k", 3)]))
  .nil))
def n_law_any_pairs : List Str := ["state", "many", "most", "k"]
/-- _law_chosen: 0 state 1 limit 2 most 3 k -/
def b_law_chosen : Ss :=
  (.cons (.iff (.cmp .eq (.var 1) (.int 0))
   (.cons (.ret (.lst .nil))
    .nil)
   .nil)
  (.cons (.ret (.lc (.call "_law_next" (.cons (.var 0) (.cons (.var 1) .nil))) (.nm 3) (.rng (.cons (.call "_law_next" (.cons (.var 0) (.cons (.bin .add (.var 2) (.int 1)) .nil))) .nil)) .nil [("k", 3)]))
  .nil))
def n_law_chosen : List Str := ["state", "limit", "most", "k"]
/-- _law_is: 0 graph 1 many 2 pairs 3 walked 4 tail 5 head 6 edge 7 vertex 8 ends 9 pair 10 end -/
def b_law_is : Ss :=
  (.cons (.iff (.or (.cons (.not (.ex (.isi (.var 0) "Graph"))) (.cons (.cmp .ne (.bi .repr (.cons (.prop (.var 0) "vertices") .nil)) (.bi .repr (.cons (.var 1) .nil))) (.cons (.cmp .ne (.bi .repr (.cons (.prop (.var 0) "edges") .nil)) (.bi .repr (.cons (.var 2) .nil))) .nil))))
   (.cons (.ret (.bl false))
    .nil)
   .nil)
  (.cons (.asg (.nm 3) (.lst .nil))
  (.cons (.forr (.tp (.nm 4) (.tp (.nm 5) .tz)) (.ex (.var 0))
   (.cons (.app (.var 3) (.tup (.cons (.var 4) (.cons (.var 5) .nil))))
    .nil))
  (.cons (.iff (.or (.cons (.cmp .ne (.bi .repr (.cons (.var 3) .nil)) (.bi .repr (.cons (.var 2) .nil))) (.cons (.cmp .ne (.bi .repr (.cons (.leni (.var 0)) .nil)) (.bi .repr (.cons (.bi .len (.cons (.var 2) .nil)) .nil))) .nil)))
   (.cons (.ret (.bl false))
    .nil)
   .nil)
  (.cons (.iff (.cmp .ne (.bi .repr (.cons (.lc (.meth (.var 0) "ends" (.cons (.var 6) .nil)) (.nm 6) (.rng (.cons (.bi .len (.cons (.var 2) .nil)) .nil)) .nil [("edge", 6)]) .nil)) (.bi .repr (.cons (.var 2) .nil)))
   (.cons (.ret (.bl false))
    .nil)
   .nil)
  (.cons (.forr (.nm 7) (.rng (.cons (.var 1) .nil))
   (.cons (.iff (.cmp .ne (.bi .repr (.cons (.meth (.var 0) "edges_at" (.cons (.var 7) .nil)) .nil)) (.bi .repr (.cons (.lc (.var 6) (.nm 6) (.rng (.cons (.bi .len (.cons (.var 2) .nil)) .nil)) (.cons (.cmp .isin (.var 7) (.ix (.var 2) (.var 6))) .nil) [("edge", 6)]) .nil)))
     (.cons (.ret (.bl false))
      .nil)
     .nil)
    (.cons (.asg (.nm 8) (.bin .add (.lc (.ix (.var 9) (.int 0)) (.nm 9) (.ex (.var 2)) .nil [("pair", 9)]) (.lc (.ix (.var 9) (.int 1)) (.nm 9) (.ex (.var 2)) .nil [("pair", 9)])))
    (.cons (.iff (.cmp .ne (.bi .repr (.cons (.meth (.var 0) "degree" (.cons (.var 7) .nil)) .nil)) (.bi .repr (.cons (.bi .len (.cons (.lc (.var 10) (.nm 10) (.ex (.var 8)) (.cons (.cmp .eq (.var 10) (.var 7)) .nil) [("end", 10)]) .nil)) .nil)))
     (.cons (.ret (.bl false))
      .nil)
     .nil)
    .nil))))
  (.cons (.ret (.bl true))
  .nil)))))))
def n_law_is : List Str := ["graph", "many", "pairs", "walked", "tail", "head", "edge", "vertex", "ends", "pair", "end"]
/-- law: 0 script 1 state 2 many 3 pairs 4 passed 5 graph 6 told 7 beside 8 chosen 9 given 10 turned 11 rest 12 due 13 edge 14 mirrored -/
def b_law : Ss :=
  (.cons (.asg (.nm 1) (.call "_law_state" (.cons (.var 0) (.cons (.int 0) (.cons (.int 8) .nil)))))
  (.cons (.asg (.nm 2) (.call "_law_next" (.cons (.var 1) (.cons (.int 10) .nil))))
  (.cons (.asg (.nm 3) (.call "_law_any_pairs" (.cons (.var 1) (.cons (.var 2) (.cons (.int 14) .nil)))))
  (.cons (.asg (.nm 4) (.bi .list (.cons (.var 3) .nil)))
  (.cons (.asg (.nm 5) (.make "Graph" (.cons (.var 2) (.cons (.var 4) .nil))))
  (.cons (.iff (.cmp .ne (.var 4) (.var 3))
   (.cons (.ret (.bl false))
    .nil)
   .nil)
  (.cons (.app (.var 4) (.tup (.cons (.int 0) (.cons (.int 0) .nil))))
  (.cons (.iff (.cmp .gt (.bi .len (.cons (.var 3) .nil)) (.int 0))
   (.cons (.set (.var 4) (.int 0) (.tup (.cons (.var 2) (.cons (.var 2) .nil))))
    .nil)
   .nil)
  (.cons (.asg (.nm 6) (.prop (.var 5) "edges"))
  (.cons (.app (.var 6) (.tup (.cons (.int 7) (.cons (.int 7) .nil))))
  (.cons (.iff (.cmp .gt (.var 2) (.int 0))
   (.cons (.asg (.nm 7) (.meth (.var 5) "edges_at" (.cons (.int 0) .nil)))
    (.cons (.app (.var 7) (.int 0))
    .nil))
   .nil)
  (.cons (.iff (.not (.ex (.call "_law_is" (.cons (.var 5) (.cons (.var 2) (.cons (.var 3) .nil))))))
   (.cons (.ret (.bl false))
    .nil)
   .nil)
  (.cons (.asg (.nm 8) (.call "_law_chosen" (.cons (.var 1) (.cons (.bi .len (.cons (.var 3) .nil)) (.cons (.int 9) .nil)))))
  (.cons (.asg (.nm 9) (.bi .list (.cons (.var 8) .nil)))
  (.cons (.asg (.nm 10) (.meth (.var 5) "turned" (.cons (.var 9) .nil)))
  (.cons (.asg (.nm 11) (.meth (.var 5) "without" (.cons (.var 9) .nil)))
  (.cons (.iff (.or (.cons (.cmp .ne (.var 9) (.var 8)) (.cons (.not (.ex (.call "_law_is" (.cons (.var 5) (.cons (.var 2) (.cons (.var 3) .nil)))))) .nil)))
   (.cons (.ret (.bl false))
    .nil)
   .nil)
  (.cons (.asg (.nm 12) (.lc (.ife (.cmp .isin (.var 13) (.var 8)) (.tup (.cons (.ix (.ix (.var 3) (.var 13)) (.int 1)) (.cons (.ix (.ix (.var 3) (.var 13)) (.int 0)) .nil))) (.ix (.var 3) (.var 13))) (.nm 13) (.rng (.cons (.bi .len (.cons (.var 3) .nil)) .nil)) .nil [("edge", 13)]))
  (.cons (.iff (.not (.ex (.call "_law_is" (.cons (.var 10) (.cons (.var 2) (.cons (.var 12) .nil))))))
   (.cons (.ret (.bl false))
    .nil)
   .nil)
  (.cons (.iff (.not (.ex (.call "_law_is" (.cons (.var 11) (.cons (.var 2) (.cons (.lc (.ix (.var 3) (.var 13)) (.nm 13) (.rng (.cons (.bi .len (.cons (.var 3) .nil)) .nil)) (.cons (.cmp .notin (.var 13) (.var 8)) .nil) [("edge", 13)]) .nil))))))
   (.cons (.ret (.bl false))
    .nil)
   .nil)
  (.cons (.asg (.nm 14) (.rev (.var 3)))
  (.cons (.asg (.nm 6) (.lst (.cons (.eqi (.var 5) (.make "Graph" (.cons (.var 2) (.cons (.bi .list (.cons (.var 3) .nil)) .nil)))) (.cons (.eqi (.var 5) (.make "Graph" (.cons (.bin .add (.var 2) (.int 1)) (.cons (.bi .list (.cons (.var 3) .nil)) .nil)))) (.cons (.eqi (.var 5) (.make "Graph" (.cons (.var 2) (.cons (.var 14) .nil)))) .nil)))))
  (.cons (.asg (.nm 6) (.bin .add (.var 6) (.lst (.cons (.eqi (.var 5) (.var 10)) (.cons (.eqi (.var 5) (.meth (.var 10) "turned" (.cons (.var 9) .nil))) .nil)))))
  (.cons (.ret (.cmp .eq (.bi .repr (.cons (.var 6) .nil)) (.bi .repr (.cons (.lst (.cons (.bl true) (.cons (.bl false) (.cons (.cmp .eq (.var 14) (.var 3)) (.cons (.cmp .eq (.var 12) (.var 3)) (.cons (.bl true) .nil)))))) .nil))))
  .nil))))))))))))))))))))))))
def n_law : List Str := ["script", "state", "many", "pairs", "passed", "graph", "told", "beside", "chosen", "given", "turned", "rest", "due", "edge", "mirrored"]
end M
set_option linter.all false
set_option Elab.async false
set_option maxRecDepth 10000
namespace M
open PySem (Str PyData)
section
variable {Γ : Tb} {Q : Rt → List (List D) → Prop} {X : Exn → Prop}
def verticesF : Fn := ⟨[.sh], fun ds Q _ => ∃ n ps, ds = [graphD n ps] ∧ Q (.sh (.int n)) []⟩
def edgesF : Fn := ⟨[.sh], fun ds Q _ => ∃ n ps, ds = [graphD n ps] ∧ Q (.fr (ps.map pairD)) []⟩
def endsF : Fn := ⟨[.sh, .sh], fun ds Q _ => ∃ (n : Nat) (ps : List (Int × Int)) (e : Nat) (p : Int × Int), ds = [graphD n ps, .int e] ∧ ps[e]? = some p ∧ Q (.sh (pairD p)) []⟩
def edgesAtF : Fn := ⟨[.sh, .sh], fun ds Q _ => ∃ (n : Nat) (ps : List (Int × Int)) (v : Nat), ds = [graphD n ps, .int v] ∧ v < n ∧ Q (.fr ((atG 0 ps v).map D.int)) []⟩
theorem p_vertices (hf : FldG Γ) : ∀ ds Q X, verticesF.sp ds Q X → dDef Γ [.sh] 0 b_Graph_vertices ds Q X := by
  rintro ds Q X ⟨n, ps, rfl, q⟩
  refine ⟨hf.h1, w1_at lk1 ?_⟩
  exact ⟨_, _, rfl, rfl, q⟩
theorem p_edges (hf : FldG Γ) : ∀ ds Q X, edgesF.sp ds Q X → dDef Γ [.sh] 0 b_Graph_edges ds Q X := by
  rintro ds Q X ⟨n, ps, rfl, q⟩
  refine ⟨hf.h2, w1_at lk2 ?_⟩
  exact ⟨_, _, rfl, rfl, q⟩
theorem atI_map {α β : Type} (f : α → β) (xs : List α) (i : Int) : L2.atI (xs.map f) i = (L2.atI xs i).map f := by
  unfold L2.atI
  rw [List.length_map]
  cases L2.ixN xs.length i with
  | none => rfl
  | some j => simp
theorem lst_at {ds : List D} {i : Nat} {d : D} (h : ds[i]? = some d) : dIx (.lst ds) (.int i) = some d := L2.atI_nat h
theorem p_ends (hf : FldG Γ) : ∀ ds Q X, endsF.sp ds Q X → dDef Γ [.sh, .sh] 0 b_Graph_ends ds Q X := by
  rintro ds Q X ⟨n, ps, e, p, rfl, hp, q⟩
  have he := (List.getElem?_eq_some_iff.mp hp).1
  refine ⟨hf.h2, w1_at lk2 ?_⟩
  refine ite_f (by simp [he]) ?_
  refine ⟨hf.h2, w1_at lk2 ?_⟩
  refine w1_at (lst_at (d := pairD p) (by rw [List.getElem?_map, hp]; rfl)) ?_
  exact ⟨_, _, rfl, rfl, q⟩
theorem p_edges_at (hf : FldG Γ) : ∀ ds Q X, edgesAtF.sp ds Q X → dDef Γ [.sh, .sh] 0 b_Graph_edges_at ds Q X := by
  rintro ds Q X ⟨n, ps, v, rfl, hv, q⟩
  refine ⟨hf.h1, w1_at lk1 ?_⟩
  refine ite_f (by simp [hv]) ?_
  refine ⟨hf.h3, w1_at lk3 ?_⟩
  refine w1_at (lst_at (d := .lst ((atG 0 ps v).map D.int)) (by rw [List.getElem?_map, List.getElem?_range hv]; rfl)) ?_
  exact ⟨_, _, rfl, rfl, q⟩
def natD (e : Nat) : D := .int e
def markD (m : Nat) (es : List Nat) : List D := (List.range m).map fun e => .bl (decide (e ∈ es))
theorem markD_nil (m : Nat) : (List.replicate m [D.bl false]).flatten = markD m [] := by
  refine List.ext_getElem? fun j => ?_
  have h1 : ∀ m : Nat, (List.replicate m [D.bl false]).flatten = List.replicate m (D.bl false) := fun m => by
    induction m with
    | zero => rfl
    | succ m ih => rw [List.replicate_succ, List.flatten_cons, ih] <;> rfl
  rw [h1]
  unfold markD
  rw [List.getElem?_map, List.getElem?_replicate]
  by_cases h : j < m
  · rw [if_pos h, List.getElem?_range h] <;> rfl
  · rw [if_neg h, List.getElem?_eq_none (by rw [List.length_range]; omega)] <;> rfl
theorem markD_len {m : Nat} {es : List Nat} : (markD m es).length = m := by
  unfold markD
  rw [List.length_map, List.length_range]
theorem markD_get {m e : Nat} {es : List Nat} (h : e < m) : (markD m es)[e]? = some (.bl (decide (e ∈ es))) := by
  unfold markD
  rw [List.getElem?_map, List.getElem?_range h] <;> rfl
theorem markD_set {m e : Nat} {es : List Nat} (h : e < m) : (markD m es).set e (.bl true) = markD m (es ++ [e]) := by
  refine List.ext_getElem? fun j => ?_
  by_cases y : e = j
  · subst y
    rw [List.getElem?_set_self (by rw [markD_len]; exact h), markD_get h]
    simp
  · rw [List.getElem?_set_ne y]
    by_cases hj : j < m
    · rw [markD_get hj, markD_get hj]
      simp [Ne.symm y]
    · rw [List.getElem?_eq_none (by rw [markD_len]; omega), List.getElem?_eq_none (by rw [markD_len]; omega)]
/-- what is known of the graph's class -/
structure ClsG (Γ : Tb) : Prop extends FldG Γ where
  it : Γ.itf "Graph" = some "_pairs"
def markedF : Fn := ⟨[.sh, .bo], fun ds Q _ => ∃ (n : Nat) (ps : List (Int × Int)) (es : List Nat), ds = [graphD n ps, .lst (es.map natD)] ∧ (∀ e ∈ es, e < ps.length) ∧ ps.length < line ∧ Q (.fr (markD ps.length es)) []⟩
theorem p_marked (hf : ClsG Γ) : ∀ ds Q X, markedF.sp ds Q X → dDef Γ [.sh, .bo] 2 b_marked_edges ds Q X := by
  rintro ds Q X ⟨n, ps, es, rfl, hes, hl, q⟩
  have hb : line < 2 ^ 62 := by decide
  have l2 := lk2 (n := n) (ps := ps)
  rw [graphD_eq]
  generalize fldsG n ps = fs at l2
  refine ⟨by decide, ?_⟩
  conv => whnf
  rw [hf.it]
  conv => whnf
  rw [l2]
  refine ⟨⟨by rw [List.length_map]; omega, by rw [List.length_map]; omega⟩, by rw [List.length_map]; simp; omega, ?_⟩
  refine ⟨rfl, ?_⟩
  rw [List.length_map, Int.toNat_natCast, markD_nil]
  refine ⟨fun k ρ => ∃ s, ρ = [.sh (.ins "Graph" fs), .bo (es.map natD), .ow (markD ps.length (es.take k)), s] ∧ isIo (some s) = false, ⟨_, rfl, rfl⟩, ?_, ?_⟩
  · rintro k ρ d hd ⟨s, rfl, hs⟩
    rw [List.getElem?_map] at hd
    obtain ⟨e, he, rfl⟩ := Option.map_eq_some_iff.mp hd
    have hm : e ∈ es := List.mem_of_getElem? he
    have lt := hes e hm
    refine ⟨hs, ?_⟩
    conv => whnf
    rw [hf.it]
    conv => whnf
    rw [l2]
    refine ite_f (by simp [natD, dCm, lt]) ?_
    have ei : L2.ixN (markD ps.length (es.take k)).length ((e : Nat) : Int) = some e := by
      rw [markD_len]
      unfold L2.ixN
      rw [if_pos (by omega), if_pos (by omega), Int.toNat_natCast]
    conv => whnf
    rw [show L2.ixN _ _ = _ from ei]
    conv => whnf
    refine ⟨.sh (.int e), ?_, rfl⟩
    have : es.take (k + 1) = es.take k ++ [e] := by
      have hk := (List.getElem?_eq_some_iff.mp he).1
      rw [List.take_succ_eq_append_getElem hk, (List.getElem?_eq_some_iff.mp he).2]
    rw [this, ← markD_set lt]
    rfl
  · rintro ρ ⟨s, rfl, _⟩
    refine ⟨_, _, rfl, rfl, ?_⟩
    rw [List.length_map, List.take_length]
    exact q
/-! ### == -/
theorem eqv_pair (a b : Int × Int) : PyData.eqv (pairD a).py (pairD b).py = decide (a = b) := by
  show (a.1 == b.1 && (a.2 == b.2 && true)) = decide (a = b)
  rw [Bool.eq_iff_iff]
  simp [Prod.ext_iff]
theorem eqv_pairs : ∀ (ps qs : List (Int × Int)), PyData.eqvAll ((ps.map pairD).map D.py) ((qs.map pairD).map D.py) = decide (ps = qs)
  | [], [] => rfl
  | [], _ :: _ => rfl
  | _ :: _, [] => rfl
  | p :: ps, q :: qs => by
    show (PyData.eqv (pairD p).py (pairD q).py && PyData.eqvAll ((ps.map pairD).map D.py) ((qs.map pairD).map D.py)) = _
    rw [eqv_pair, eqv_pairs ps qs, Bool.eq_iff_iff]
    simp
theorem pl_pairs (k : Nat) (ps : List (Int × Int)) : D.pl (k + 2) (.lst (ps.map pairD)) = true := by
  show (ps.map pairD).all (D.pl (k + 1)) = true
  rw [List.all_map, List.all_eq_true]
  intro p _
  show (D.pl k (.int p.1) && (D.pl k (.int p.2) && true)) = true
  cases k <;> rfl
theorem dEq_pairs (ps qs : List (Int × Int)) : dEq (.lst (ps.map pairD)) (.lst (qs.map pairD)) = some (decide (ps = qs)) := by
  show (if D.pl 20 (.lst (ps.map pairD)) && D.pl 20 (.lst (qs.map pairD)) then some (PyData.eqv (D.lst (ps.map pairD)).py (D.lst (qs.map pairD)).py) else none) = _
  rw [pl_pairs 18, pl_pairs 18, Bool.and_self, if_pos (rfl : true = true), py_lst, py_lst]
  exact congrArg some (eqv_pairs ps qs)
def eqF : Fn := ⟨[.sh, .sh], fun ds Q _ => ∃ (n m : Nat) (ps qs : List (Int × Int)), ds = [graphD n ps, graphD m qs] ∧ Q (.sh (.bl (decide (n = m) && decide (ps = qs)))) []⟩
theorem p_eq (hf : ClsG Γ) (hi : Γ.isn "Graph" = true) : ∀ ds Q X, eqF.sp ds Q X → dDef Γ [.sh, .sh] 0 b_Graph_eq ds Q X := by
  rintro ds Q X ⟨n, m, ps, qs, rfl, q⟩
  have l1 := lk1 (n := n) (ps := ps)
  have l2 := lk2 (n := n) (ps := ps)
  have l1' := lk1 (n := m) (ps := qs)
  have l2' := lk2 (n := m) (ps := qs)
  rw [graphD_eq, graphD_eq]
  generalize fldsG n ps = fs at l1 l2
  generalize fldsG m qs = gs at l1' l2'
  refine ⟨hi, ?_⟩
  refine ⟨hf.h1, w1_at l1 ?_⟩
  refine ⟨hf.h1, w1_at l1' ?_⟩
  have e : decide ((n : Int) = (m : Int)) = decide (n = m) := by
    by_cases h : n = m
    · simp [h]
    · have : ¬ (n : Int) = (m : Int) := by omega
      simp [h, this]
  refine ⟨decide (n = m), congrArg (fun b => some (D.bl b)) e, ?_⟩
  by_cases h : n = m
  · refine ite_t (by simp [h]) ?_
    refine ⟨hf.h2, w1_at l2 ?_⟩
    refine ⟨hf.h2, w1_at l2' ?_⟩
    conv => whnf
    rw [show dCm .eq (D.lst (ps.map pairD)) (D.lst (qs.map pairD)) = _ from dEq_pairs ps qs]
    refine ⟨_, _, rfl, rfl, ?_⟩
    rw [decide_eq_true h, Bool.true_and] at q
    exact q
  · refine ite_f (by simp [h]) ?_
    refine ⟨_, _, rfl, rfl, ?_⟩
    rw [decide_eq_false h, Bool.false_and] at q
    exact q
/-! ### turned, without -/
def turnP (es : List Nat) (i : Nat) (p : Int × Int) : Int × Int := if i ∈ es then (p.2, p.1) else p
def turnG (ps : List (Int × Int)) (es : List Nat) : List (Int × Int) := ps.mapIdx (turnP es)
theorem turn_ok {n : Nat} {ps : List (Int × Int)} {es : List Nat} (h : okG n ps) : okG n (turnG ps es) := by
  intro p hp
  obtain ⟨i, hi, rfl⟩ := List.mem_mapIdx.mp hp
  have := h ps[i] (List.getElem_mem hi)
  unfold turnP
  split
  · exact ⟨this.2.2.1, this.2.2.2, this.1, this.2.1⟩
  · exact this
def turnedF : Fn := ⟨[.sh, .bo], fun ds Q _ => ∃ (n : Nat) (ps : List (Int × Int)) (es : List Nat), ds = [graphD n ps, .lst (es.map natD)] ∧ (∀ e ∈ es, e < ps.length) ∧ okG n ps ∧ n < line ∧ ps.length < line ∧ Q (.sh (graphD n (turnG ps es))) []⟩
/-- what is known of the rest -/
structure ModG (Γ : Tb) : Prop extends ClsG Γ where
  mkr : Γ.mke "Graph" = some mkG
  me : Γ.f "marked_edges" = some markedF
theorem p_turned (hf : ModG Γ) : ∀ ds Q X, turnedF.sp ds Q X → dDef Γ [.sh, .bo] 5 b_Graph_turned ds Q X := by
  rintro ds Q X ⟨n, ps, es, rfl, hes, hok, hn, hl, q⟩
  have l1 := lk1 (n := n) (ps := ps)
  have l2 := lk2 (n := n) (ps := ps)
  conv => whnf
  rw [hf.me]
  refine ⟨List.nodup_nil, fun _ h => (by cases h), n, ps, es, rfl, hes, hl, rfl, ?_⟩
  rw [graphD_eq]
  generalize fldsG n ps = fs at l1 l2
  refine ⟨hf.h2, w1_at l2 ?_⟩
  refine ⟨rfl, rfl, fun k acc ρ => ρ = [.sh (.ins "Graph" fs), .bo (es.map natD), .ow (markD ps.length es), .top, .top, .top, .top] ∧ acc = ((turnG ps es).take k).map pairD, ⟨rfl, rfl⟩, ?_, ?_⟩
  · rintro k acc ρ d hd ⟨rfl, rfl⟩
    obtain ⟨x, hx, rfl⟩ := getE hd
    rw [List.getElem?_map] at hx
    obtain ⟨p, hp, rfl⟩ := Option.map_eq_some_iff.mp hx
    have hk := (List.getElem?_eq_some_iff.mp hp).1
    have ht : (turnG ps es)[k]? = some (turnP es k p) := by
      unfold turnG
      rw [List.getElem?_mapIdx, hp] <;> rfl
    have hk2 := (List.getElem?_eq_some_iff.mp ht).1
    have hs : (turnG ps es).take (k + 1) = (turnG ps es).take k ++ [turnP es k p] := by
      rw [List.take_succ_eq_append_getElem hk2, (List.getElem?_eq_some_iff.mp ht).2]
    have hacc : (((turnG ps es).take k).map pairD).length < line := by
      rw [List.length_map, List.length_take]
      omega
    refine ⟨rfl, rfl, rfl, rfl, rfl, ?_⟩
    refine w1_at (lst_at (markD_get (es := es) hk)) ?_
    by_cases hm : k ∈ es
    · refine ite_t (by simp [hm]) ?_
      refine ⟨(show 2 ≤ line by decide), hacc, rfl, ?_⟩
      rw [hs, List.map_append]
      unfold turnP
      rw [if_pos hm] <;> rfl
    · refine ite_f (by simp [hm]) ?_
      refine ⟨(show 2 ≤ line by decide), hacc, rfl, ?_⟩
      rw [hs, List.map_append]
      unfold turnP
      rw [if_neg hm] <;> rfl
  · rintro acc ρ ⟨rfl, rfl⟩
    have hl2 : (turnG ps es).length = ps.length := by
      unfold turnG
      rw [List.length_mapIdx]
    rw [enumD_len, List.length_map, ← hl2, List.take_length]
    refine ⟨rfl, ?_⟩
    refine ⟨hf.h1, w1_at l1 ?_⟩
    conv => whnf
    rw [hf.mkr]
    refine ⟨List.nodup_nil, fun _ h => (by cases h), n, turnG ps es, rfl, turn_ok hok, hn, by rw [hl2]; exact hl, ?_⟩
    exact ⟨_, _, rfl, rfl, q⟩
def restG (es : List Nat) : Nat → List (Int × Int) → List (Int × Int)
  | _, [] => []
  | k, p :: ps => (if k ∈ es then [] else [p]) ++ restG es (k + 1) ps
theorem rest_snoc (es : List Nat) (p : Int × Int) : ∀ (k : Nat) (ps : List (Int × Int)), restG es k (ps ++ [p]) = restG es k ps ++ (if k + ps.length ∈ es then [] else [p])
  | k, [] => by simp [restG]
  | k, q :: ps => by
    rw [List.cons_append, restG, restG, rest_snoc es p (k + 1) ps, List.append_assoc, List.length_cons]
    have : k + 1 + ps.length = k + (ps.length + 1) := by omega
    rw [this]
theorem rest_mem {es : List Nat} {p : Int × Int} : ∀ {k : Nat} {ps : List (Int × Int)}, p ∈ restG es k ps → p ∈ ps
  | k, [], h => by cases h
  | k, q :: ps, h => by
    rw [restG, List.mem_append] at h
    rcases h with h | h
    · split at h
      · cases h
      · simp only [List.mem_singleton] at h
        rw [h]
        exact List.mem_cons_self
    · exact List.mem_cons_of_mem _ (rest_mem h)
theorem rest_len {es : List Nat} : ∀ {k : Nat} {ps : List (Int × Int)}, (restG es k ps).length ≤ ps.length
  | k, [] => Nat.le_refl _
  | k, q :: ps => by
    rw [restG, List.length_append, List.length_cons]
    have := rest_len (es := es) (k := k + 1) (ps := ps)
    split
    · simp only [List.length_nil]
      omega
    · simp only [List.length_singleton]
      omega
def withoutF : Fn := ⟨[.sh, .bo], fun ds Q _ => ∃ (n : Nat) (ps : List (Int × Int)) (es : List Nat), ds = [graphD n ps, .lst (es.map natD)] ∧ (∀ e ∈ es, e < ps.length) ∧ okG n ps ∧ n < line ∧ ps.length < line ∧ Q (.sh (graphD n (restG es 0 ps))) []⟩
theorem p_without (hf : ModG Γ) : ∀ ds Q X, withoutF.sp ds Q X → dDef Γ [.sh, .bo] 3 b_Graph_without ds Q X := by
  rintro ds Q X ⟨n, ps, es, rfl, hes, hok, hn, hl, q⟩
  have l1 := lk1 (n := n) (ps := ps)
  have l2 := lk2 (n := n) (ps := ps)
  conv => whnf
  rw [hf.me]
  refine ⟨List.nodup_nil, fun _ h => (by cases h), n, ps, es, rfl, hes, hl, rfl, ?_⟩
  rw [graphD_eq]
  generalize fldsG n ps = fs at l1 l2
  refine ⟨hf.h1, w1_at l1 ?_⟩
  refine ⟨hf.h2, w1_at l2 ?_⟩
  refine ⟨rfl, rfl, fun k acc ρ => ρ = [.sh (.ins "Graph" fs), .bo (es.map natD), .ow (markD ps.length es), .top, .top] ∧ acc = (restG es 0 (ps.take k)).map pairD, ⟨rfl, rfl⟩, ?_, ?_⟩
  · rintro k acc ρ d hd ⟨rfl, rfl⟩
    obtain ⟨x, hx, rfl⟩ := getE hd
    rw [List.getElem?_map] at hx
    obtain ⟨p, hp, rfl⟩ := Option.map_eq_some_iff.mp hx
    have hk := (List.getElem?_eq_some_iff.mp hp).1
    have hs : restG es 0 (ps.take (k + 1)) = restG es 0 (ps.take k) ++ (if k ∈ es then [] else [p]) := by
      rw [List.take_succ_eq_append_getElem hk, (List.getElem?_eq_some_iff.mp hp).2, rest_snoc, List.length_take, Nat.min_eq_left (Nat.le_of_lt hk), Nat.zero_add]
    have hacc : ((restG es 0 (ps.take k)).map pairD).length < line := by
      rw [List.length_map]
      have := rest_len (es := es) (k := 0) (ps := ps.take k)
      rw [List.length_take] at this
      omega
    refine ⟨rfl, rfl, rfl, ?_⟩
    refine w1_at (lst_at (markD_get (es := es) hk)) ?_
    by_cases hm : k ∈ es
    · refine ite_f (by simp [hm]) ?_
      refine ⟨rfl, ?_⟩
      rw [hs, if_pos hm, List.append_nil]
    · refine ite_t (by simp [hm]) ?_
      refine ⟨hacc, rfl, ?_⟩
      rw [hs, if_neg hm, List.map_append] <;> rfl
  · rintro acc ρ ⟨rfl, rfl⟩
    rw [enumD_len, List.length_map, List.take_length]
    conv => whnf
    rw [hf.mkr]
    refine ⟨List.nodup_nil, fun _ h => (by cases h), n, restG es 0 ps, rfl, fun p hp => hok p (rest_mem hp), hn, Nat.lt_of_le_of_lt rest_len hl, ?_⟩
    exact ⟨_, _, rfl, rfl, q⟩
/-! ### degree -/
def degG (ps : List (Int × Int)) (v : Int) : Nat := (ps.filter fun p => decide (p.1 = v)).length + (ps.filter fun p => decide (p.2 = v)).length
/-- the loops among edges -/
def loopsOf (ps : List (Int × Int)) (l : List Int) : List Int := l.filter fun i => match ps[i.toNat]? with
  | some p => decide (p.1 = p.2)
  | none => false
theorem atG_get {ps : List (Int × Int)} {v : Int} : ∀ {k : Nat} {l : List (Int × Int)} {i : Int}, i ∈ atG k l v → ∃ j : Nat, j < l.length ∧ i = ((k + j : Nat) : Int)
  | k, [], i, h => by cases h
  | k, p :: l, i, h => by
    rw [atG, List.mem_append] at h
    rcases h with h | h
    · split at h
      · simp only [List.mem_singleton] at h
        exact ⟨0, by simp, by rw [h, Nat.add_zero]⟩
      · cases h
    · obtain ⟨j, hj, e⟩ := atG_get (ps := ps) h
      exact ⟨j + 1, by simpa using hj, by rw [e]; congr 1; omega⟩
theorem deg_go (ps : List (Int × Int)) (v : Int) : ∀ (l : List (Int × Int)) (k : Nat), (∀ j : Nat, j < l.length → ps[k + j]? = l[j]?) → (atG k l v).length + (loopsOf ps (atG k l v)).length = degG l v
  | [], k, _ => rfl
  | p :: l, k, h => by
    have ih := deg_go ps v l (k + 1) fun j hj => by
      have := h (j + 1) (by simpa using hj)
      rw [List.getElem?_cons_succ] at this
      rw [← this]
      congr 1
      omega
    have h0 : ps[k]? = some p := by
      have := h 0 (by simp)
      rw [Nat.add_zero] at this
      exact this
    have e : loopsOf ps [(k : Int)] = if p.1 = p.2 then [(k : Int)] else [] := by
      unfold loopsOf
      rw [List.filter_cons]
      simp only [Int.toNat_natCast, h0, List.filter_nil, decide_eq_true_eq]
    have ap : ∀ a b, loopsOf ps (a ++ b) = loopsOf ps a ++ loopsOf ps b := fun a b => List.filter_append ..
    unfold degG at ih ⊢
    rw [atG, ap, List.length_append, List.length_append, List.filter_cons, List.filter_cons]
    by_cases c1 : p.1 = v
    · by_cases c2 : p.2 = v
      · rw [if_pos (.inl c1), e, if_pos (by rw [c1, c2]), if_pos (decide_eq_true c1), if_pos (decide_eq_true c2)]
        simp only [List.length_singleton, List.length_cons, List.length_append]
        have z1 : ([] : List Int).length = 0 := rfl
        have z2 : ([((k : Nat) : Int)] : List Int).length = 1 := rfl
        omega
      · rw [if_pos (.inl c1), e, if_neg (by rw [c1]; exact fun z => c2 z.symm), if_pos (decide_eq_true c1), if_neg (by simp [c2])]
        simp only [List.length_singleton, List.length_cons, List.length_nil, List.length_append]
        have z1 : ([] : List Int).length = 0 := rfl
        omega
    · by_cases c2 : p.2 = v
      · rw [if_pos (.inr c2), e, if_neg (by rw [c2]; exact c1), if_neg (by simp [c1]), if_pos (decide_eq_true c2)]
        simp only [List.length_singleton, List.length_cons, List.length_nil, List.length_append]
        have z1 : ([] : List Int).length = 0 := rfl
        omega
      · rw [if_neg (by rintro (z | z); exact c1 z; exact c2 z), if_neg (by simp [c1]), if_neg (by simp [c2])]
        have n0 : loopsOf ps ([] : List Int) = [] := rfl
        rw [n0, List.length_nil, Nat.zero_add, Nat.zero_add]
        exact ih
def degreeF : Fn := ⟨[.sh, .sh], fun ds Q _ => ∃ (n : Nat) (ps : List (Int × Int)) (v : Nat), ds = [graphD n ps, .int v] ∧ v < n ∧ ps.length < line ∧ Q (.sh (.int (degG ps v))) []⟩
theorem p_degree (hf : ClsG Γ) (hm : Γ.m "Graph" "edges_at" = some edgesAtF) : ∀ ds Q X, degreeF.sp ds Q X → dDef Γ [.sh, .sh] 2 b_Graph_degree ds Q X := by
  rintro ds Q X ⟨n, ps, v, rfl, hv, hl, q⟩
  have l2 := lk2 (n := n) (ps := ps)
  have l0 := lk0 (n := n) (ps := ps) (m := "edges_at") (by decide +kernel) (by decide +kernel) (by decide +kernel)
  refine ⟨l0, by rw [hm] <;> rfl, ?_⟩
  conv => whnf
  rw [hm]
  refine ⟨List.nodup_nil, fun _ h => (by cases h), n, ps, v, rfl, hv, rfl, ?_⟩
  rw [graphD_eq]
  generalize fldsG n ps = fs at l0 l2
  refine ⟨rfl, fun k acc ρ => ρ = [.sh (.ins "Graph" fs), .sh (.int v), .sh (.lst ((atG 0 ps v).map D.int)), .top] ∧ acc = (loopsOf ps ((atG 0 ps v).take k)).map D.int, ⟨rfl, rfl⟩, ?_, ?_⟩
  · rintro k acc ρ d hd ⟨rfl, rfl⟩
    rw [List.getElem?_map] at hd
    obtain ⟨i, hi, rfl⟩ := Option.map_eq_some_iff.mp hd
    have hk := (List.getElem?_eq_some_iff.mp hi).1
    obtain ⟨j, hj, rfl⟩ := atG_get (ps := ps) (List.mem_of_getElem? hi)
    rw [Nat.zero_add] at hi ⊢
    have hp : ps[j]? = some ps[j] := List.getElem?_eq_getElem hj
    generalize ps[j] = p at hp
    have hs : loopsOf ps ((atG 0 ps v).take (k + 1)) = loopsOf ps ((atG 0 ps v).take k) ++ (if p.1 = p.2 then [(j : Int)] else []) := by
      rw [List.take_succ_eq_append_getElem hk, (List.getElem?_eq_some_iff.mp hi).2]
      unfold loopsOf
      rw [List.filter_append, List.filter_cons]
      simp only [Int.toNat_natCast, hp, List.filter_nil, decide_eq_true_eq]
    have hacc : ((loopsOf ps ((atG 0 ps v).take k)).map D.int).length < line := by
      rw [List.length_map]
      have h1 := List.length_filter_le (fun i : Int => match ps[i.toNat]? with
        | some p => decide (p.1 = p.2)
        | none => false) ((atG 0 ps v).take k)
      rw [List.length_take] at h1
      have h2 := atG_len v 0 ps
      unfold loopsOf
      omega
    have e1 : dIx (.lst (ps.map pairD)) (.int (j : Int)) = some (pairD p) := lst_at (by rw [List.getElem?_map, hp]; rfl)
    refine ⟨rfl, ?_⟩
    refine ⟨hf.h2, w1_at l2 ?_⟩
    refine w1_at e1 ?_
    refine ⟨hf.h2, w1_at l2 ?_⟩
    refine w1_at e1 ?_
    by_cases hm : p.1 = p.2
    · refine ite_t (decide_eq_true hm) ?_
      refine ⟨hacc, rfl, ?_⟩
      rw [hs, if_pos hm, List.map_append] <;> rfl
    · refine ite_f (by simp [hm]) ?_
      refine ⟨rfl, ?_⟩
      rw [hs, if_neg hm, List.append_nil]
  · rintro acc ρ ⟨rfl, rfl⟩
    rw [List.length_map, List.take_length]
    refine ⟨_, _, rfl, rfl, ?_⟩
    have := deg_go ps v ps 0 fun j _ => by rw [Nat.zero_add]
    rw [← this] at q
    rw [show (((atG 0 ps v).length + (loopsOf ps (atG 0 ps v)).length : Nat) : Int) = ((atG 0 ps v).length : Int) + ((loopsOf ps (atG 0 ps v)).length : Int) from by omega] at q
    rw [List.length_map]
    exact q
end
end M
set_option linter.all false
set_option Elab.async false
set_option maxRecDepth 10000
/-! LawA: the drawing of a law's input: cells, numbers, the state. -/
namespace M
open PySem (Str PyData)
section
variable {Γ : Tb}
def cellF : Fn := ⟨[.sh, .sh], fun ds Q _ => ∃ (ns : List Int) (k : Nat), ds = [.scr ns, .int k] ∧ ∀ i : Int, Q (.sh (.int i)) []⟩
theorem p_cell : ∀ ds Q X, cellF.sp ds Q X → dDef Γ [.sh, .sh] 0 b_law_cell ds Q X := by
  rintro ds Q X ⟨ns, k, rfl, q⟩
  by_cases h : k < ns.length
  · refine ite_t (decide_eq_true (show (k : Int) < (ns.length : Int) by omega)) ?_
    have e : dIx (.scr ns) (.int k) = some (.int ns[k]) := by
      show (L2.atI ns k).map D.int = _
      rw [L2.atI_nat (List.getElem?_eq_getElem h)] <;> rfl
    refine w1_at e ?_
    exact ⟨_, _, rfl, rfl, q _⟩
  · refine ite_f (by simp; omega) ?_
    exact ⟨_, _, rfl, rfl, q _⟩
def small (xs : List Int) : Prop := ∀ x ∈ xs, 0 ≤ x ∧ x < 1000
def numbersF : Fn := ⟨[.sh, .sh], fun ds Q _ => ∃ (c : Int) (m : Nat), ds = [.int c, .int m] ∧ m ≤ 100 ∧ ∀ xs : List Int, xs.length = m → small xs → Q (.fr (xs.map D.int)) []⟩
theorem log_lt {x : Int} {k : Nat} (h : x.natAbs < 2 ^ k) (hk : 0 < k) : x.natAbs.log2 < k := by
  by_cases z : x.natAbs = 0
  · rw [z]
    exact hk
  · exact (Nat.log2_lt z).mpr h
theorem els_ok {c rest a : Int} {m k : Nat} {xs : List D} {s6 : Sl} {P : Po} (hl : xs.length < line) (h6 : isIo (some s6) = false) (hb : a < 2 ^ 1000) (ha : 0 ≤ a) (hk : k < 1000) (nx : ∀ (x : Int) s6', 0 ≤ x → x < 1000 → isIo (some s6') = false → P.nx [.sh (.int c), .sh (.int m), .sh (.int rest), .sh (.int a), .ow (xs ++ [.int x]), .sh (.int (k : Int)), s6']) :
    dSs Γ (.cons (.asg (.nm 6) (.bin .mod (.bi .int (.cons (.bin .add (.bin .add (.bin .mul (.var 3) (.int 48271)) (.bin .mul (.var 5) (.int 69621))) (.int 11)) .nil)) (.int 2147483647)))
     (.cons (.asg (.nm 6) (.bin .mod (.bi .int (.cons (.bin .add (.bin .add (.bin .mul (.var 6) (.var 6)) (.bin .mul (.int 40692) (.var 5))) (.int 3)) .nil)) (.int 2147483629)))
      (.cons (.app (.var 4) (.bin .mod (.bi .int (.cons (.bin .fdiv (.var 6) (.int 7)) .nil)) (.int 1000))) .nil))) [.sh (.int c), .sh (.int m), .sh (.int rest), .sh (.int a), .ow xs, .sh (.int (k : Int)), s6] P := by
  have l1 : a.natAbs.log2 < 1000 := log_lt (by
    have : ((2 ^ 1000 : Nat) : Int) = 2 ^ 1000 := by decide +kernel
    omega) (by decide)
  have l2 : (k : Int).natAbs.log2 < 10 := log_lt (by omega) (by decide)
  have c1 : (48271 : Int).natAbs.log2 < 16 := by decide +kernel
  have c2 : (69621 : Int).natAbs.log2 < 17 := by decide +kernel
  have c3 : (40692 : Int).natAbs.log2 < 16 := by decide +kernel
  refine ⟨show a.natAbs.log2 + (48271 : Int).natAbs.log2 < 1000000 by omega, ?_⟩
  refine ⟨show (k : Int).natAbs.log2 + (69621 : Int).natAbs.log2 < 1000000 by omega, ?_⟩
  refine ⟨by decide, h6, ?_⟩
  have m1 : 0 ≤ (a * 48271 + (k : Int) * 69621 + 11) % 2147483647 := Int.emod_nonneg _ (by decide)
  have m2 : (a * 48271 + (k : Int) * 69621 + 11) % 2147483647 < 2147483647 := Int.emod_lt_of_pos _ (by decide)
  generalize (a * 48271 + (k : Int) * 69621 + 11) % 2147483647 = y at m1 m2
  have l3 : y.natAbs.log2 < 31 := log_lt (by omega) (by decide)
  refine ⟨show y.natAbs.log2 + y.natAbs.log2 < 1000000 by omega, ?_⟩
  refine ⟨show (40692 : Int).natAbs.log2 + (k : Int).natAbs.log2 < 1000000 by omega, ?_⟩
  refine ⟨by decide, rfl, ?_⟩
  have m3 : 0 ≤ (y * y + 40692 * (k : Int) + 3) % 2147483629 := Int.emod_nonneg _ (by decide)
  generalize (y * y + 40692 * (k : Int) + 3) % 2147483629 = z at m3
  refine ⟨rfl, ⟨by decide, by decide +kernel⟩, ?_⟩
  refine ⟨by decide, hl, ?_⟩
  exact nx (z / 7 % 1000) _ (Int.emod_nonneg _ (by decide)) (Int.emod_lt_of_pos _ (by decide)) rfl
theorem p_numbers : ∀ ds Q X, numbersF.sp ds Q X → dDef Γ [.sh, .sh] 5 b_law_numbers ds Q X := by
  rintro ds Q X ⟨c, m, rfl, hm, q⟩
  refine ⟨rfl, rfl, by decide, rfl, ?_⟩
  refine ⟨⟨by omega, by omega⟩, ?_⟩
  generalize ha : (if c < 0 then -c else c) = a
  have a0 : 0 ≤ a := by
    rw [← ha]
    split <;> omega
  refine ⟨fun k ρ => ∃ (rest : Int) (xs : List Int) (s5 s6 : Sl), ρ = [.sh (.int c), .sh (.int m), .sh (.int rest), .sh (.int a), .ow (xs.map D.int), s5, s6] ∧ 0 ≤ rest ∧ a < (rest + 1) * 1000 ^ k ∧ xs.length = k ∧ small xs ∧ isIo (some s5) = false ∧ isIo (some s6) = false,
    ⟨a, [], .top, .top, rfl, a0, by simp; omega, rfl, fun x h => (by cases h), rfl, rfl⟩, ?_, ?_⟩
  · rintro k ρ d hd ⟨rest, xs, s5, s6, rfl, h0, h1, h2, h3, h5, h6⟩
    obtain ⟨hk, rfl⟩ := getR hd
    have hk : k < m := by omega
    rw [Int.zero_add]
    refine ⟨h5, ?_⟩
    have hlen : (xs.map D.int).length < line := by
      rw [List.length_map, h2]
      have : (100 : Nat) < line := by decide
      omega
    refine ⟨⟨by decide, by decide, by decide⟩, ?_⟩
    have e18 : ((10 : Int) ^ (18 : Int).toNat) = 1000000000000000000 := by decide
    have step : ∀ (x : Int), 0 ≤ x → x < 1000 → small (xs ++ [x]) := fun x g1 g2 y hy => by
      rcases List.mem_append.mp hy with z | z
      · exact h3 y z
      · simp only [List.mem_singleton] at z
        rw [z]
        exact ⟨g1, g2⟩
    have grow : a < (rest + 1) * 1000 ^ (k + 1) := by
      rw [Int.pow_succ]
      have p0 : (0 : Int) < 1000 ^ k := Int.pow_pos (by decide)
      have : (rest + 1) * 1000 ^ k ≤ (rest + 1) * (1000 ^ k * 1000) := Int.mul_le_mul_of_nonneg_left (by omega) (by omega)
      omega
    by_cases c1 : (1000000000000000000 : Int) ≤ a
    · refine ite_t (by rw [e18]; exact decide_eq_true c1) ?_
      by_cases c2 : 0 < rest
      · refine ite_t (decide_eq_true c2) ?_
        refine ⟨rfl, by decide, hlen, ?_⟩
        refine ⟨⟨by decide, by decide⟩, rfl, rest / 1000, xs ++ [rest % 1000], _, s6, by rw [List.map_append]; rfl, by omega, ?_, by rw [List.length_append, h2]; rfl, step _ (by omega) (by omega), rfl, h6⟩
        rw [Int.pow_succ]
        have p0 : (0 : Int) < 1000 ^ k := Int.pow_pos (by decide)
        have e1 : (rest / 1000 + 1) * (1000 ^ k * 1000) = ((rest / 1000 + 1) * 1000) * 1000 ^ k := by
          rw [Int.mul_comm (1000 ^ k) 1000, Int.mul_assoc]
        rw [e1]
        have : (rest + 1) * 1000 ^ k ≤ ((rest / 1000 + 1) * 1000) * 1000 ^ k := Int.mul_le_mul_of_nonneg_right (by omega) (by omega)
        omega
      · refine ite_f (by simp; omega) ?_
        refine els_ok hlen h6 (by
          have : rest = 0 := by omega
          rw [this, Int.zero_add, Int.one_mul] at h1
          have p1 : (1000 : Int) ^ k ≤ 1000 ^ 100 := by
            have h := Nat.pow_le_pow_right (n := 1000) (by decide) (show k ≤ 100 by omega)
            have e1 : ((1000 ^ k : Nat) : Int) = 1000 ^ k := by simp
            have e2 : ((1000 ^ 100 : Nat) : Int) = 1000 ^ 100 := by decide +kernel
            omega
          have p2 : (1000 : Int) ^ 100 < 2 ^ 1000 := by decide +kernel
          omega) a0 (by omega) fun x s6' g1 g2 g3 => ?_
        exact ⟨rest, xs ++ [x], _, s6', by rw [List.map_append]; rfl, h0, grow, by rw [List.length_append, h2]; rfl, step x g1 g2, rfl, g3⟩
    · refine ite_f (by rw [e18]; simpa using c1) ?_
      refine els_ok hlen h6 (by
        have p2 : (1000000000000000000 : Int) < 2 ^ 1000 := by decide +kernel
        omega) a0 (by omega) fun x s6' g1 g2 g3 => ?_
      exact ⟨rest, xs ++ [x], _, s6', by rw [List.map_append]; rfl, h0, grow, by rw [List.length_append, h2]; rfl, step x g1 g2, rfl, g3⟩
  · rintro ρ ⟨rest, xs, s5, s6, rfl, h0, h1, h2, h3, h5, h6⟩
    refine ⟨_, _, rfl, rfl, q xs ?_ h3⟩
    rw [h2, rngD_len]
    omega
/-- the state: numbers, and the place -/
def stD (xs : List Int) (p : Nat) : D := .lst [.lst (xs.map D.int), .int p]
def stL (xs : List Int) (p : Nat) : List D := [.lst (xs.map D.int), .int p]
structure DrawG (Γ : Tb) : Prop where
  cell : Γ.f "_law_cell" = some cellF
  numbers : Γ.f "_law_numbers" = some numbersF
def stateF : Fn := ⟨[.sh, .sh, .sh], fun ds Q _ => ∃ (ns : List Int) (s m : Nat), ds = [.scr ns, .int s, .int m] ∧ s + m ≤ 100 ∧ ∀ xs : List Int, xs.length = 20 * m → small xs → Q (.fr (stL xs 0)) []⟩
theorem adds_ok {ns xs : List Int} {s m k c : Int} {P : Po} (hf : DrawG Γ) (hl : xs.length + 20 ≤ line) (nx : ∀ ys : List Int, ys.length = 20 → small ys → P.nx [.sh (.scr ns), .sh (.int s), .sh (.int m), .ow ((xs ++ ys).map D.int), .sh (.int k), .sh (.int c)]) :
    dSs Γ (.cons (.asg (.nm 3) (.bin .add (.var 3) (.call "_law_numbers" (.cons (.var 5) (.cons (.int 20) .nil))))) .nil) [.sh (.scr ns), .sh (.int s), .sh (.int m), .ow (xs.map D.int), .sh (.int k), .sh (.int c)] P := by
  conv => whnf
  rw [hf.numbers]
  refine ⟨List.nodup_nil, fun _ h => (by cases h), c, 20, rfl, by decide, fun ys y1 y2 => ?_⟩
  refine ⟨by rw [List.length_map, List.length_map, y1]; exact hl, rfl, ?_⟩
  rw [← List.map_append]
  exact nx ys y1 y2
theorem p_state (hf : DrawG Γ) : ∀ ds Q X, stateF.sp ds Q X → dDef Γ [.sh, .sh, .sh] 3 b_law_state ds Q X := by
  rintro ds Q X ⟨ns, s, m, rfl, hm, q⟩
  refine ⟨by decide, rfl, ?_⟩
  refine ⟨⟨by omega, by omega, by omega, by omega⟩, ?_⟩
  refine ⟨fun k ρ => ∃ (xs : List Int) (s4 s5 : Sl), ρ = [.sh (.scr ns), .sh (.int s), .sh (.int m), .ow (xs.map D.int), s4, s5] ∧ xs.length = 20 * k ∧ small xs ∧ isIo (some s4) = false ∧ isIo (some s5) = false, ⟨[], .top, .top, rfl, rfl, fun x h => (by cases h), rfl, rfl⟩, ?_, ?_⟩
  · rintro k ρ d hd ⟨xs, s4, s5, rfl, h2, h3, h4, h5⟩
    obtain ⟨hk, rfl⟩ := getR hd
    have hk : k < m := by omega
    refine ⟨h4, ?_⟩
    conv => whnf
    rw [hf.cell]
    refine ⟨List.nodup_nil, fun _ h => (by cases h), ns, s + k, rfl, fun c => ⟨h5, ?_⟩⟩
    have hl : xs.length + 20 ≤ line := by
      have : (2020 : Nat) ≤ line := by decide
      omega
    have nx : ∀ (c' : Int) (ys : List Int), ys.length = 20 → small ys → ∃ (zs : List Int) (s4 s5 : Sl), [Sl.sh (.scr ns), .sh (.int s), .sh (.int m), .ow ((xs ++ ys).map D.int), .sh (.int ((s : Int) + (k : Int))), .sh (.int c')] = [Sl.sh (.scr ns), .sh (.int s), .sh (.int m), .ow (zs.map D.int), s4, s5] ∧ zs.length = 20 * (k + 1) ∧ small zs ∧ isIo (some s4) = false ∧ isIo (some s5) = false := fun c' ys y1 y2 =>
      ⟨xs ++ ys, _, _, rfl, by rw [List.length_append, h2, y1]; omega, fun x hx => (List.mem_append.mp hx).elim (h3 x) (y2 x), rfl, rfl⟩
    refine ⟨⟨by decide, by decide, by decide⟩, ?_⟩
    have e18 : ((10 : Int) ^ (18 : Int).toNat) = 1000000000000000000 := by decide
    by_cases c1 : (if c < 0 then -c else c) < 1000000000000000000
    · refine ite_t (by rw [e18]; exact decide_eq_true c1) ?_
      have lc : c.natAbs.log2 < 60 := log_lt (by
        have : (1000000000000000000 : Int) < 2 ^ 60 := by decide
        split at c1 <;> omega) (by decide)
      have l6 : (61 : Int).natAbs.log2 < 6 := by decide +kernel
      refine ⟨show c.natAbs.log2 + (61 : Int).natAbs.log2 < 1000000 by omega, rfl, ?_⟩
      exact adds_ok hf hl fun ys y1 y2 => nx _ ys y1 y2
    · refine ite_f (by rw [e18]; simpa using c1) ?_
      exact adds_ok hf hl fun ys y1 y2 => nx _ ys y1 y2
  · rintro ρ ⟨xs, s4, s5, rfl, h2, h3, _⟩
    refine ⟨(show 2 ≤ line by decide), ?_⟩
    refine ⟨_, _, rfl, rfl, q xs ?_ h3⟩
    rw [h2, rngD_len]
    omega
def nextF : Fn := ⟨[.io, .sh], fun ds Q _ => ∃ (xs : List Int) (p m : Nat), ds = [stD xs p, .int m] ∧ 0 < m ∧ 0 < xs.length ∧ xs.length < line ∧ small xs ∧ p < 1000000 ∧ ∀ r : Nat, r < m → Q (.sh (.int r)) [stL xs (p + 1)]⟩
theorem p_next : ∀ ds Q X, nextF.sp ds Q X → dDef Γ [.io, .sh] 2 b_law_next ds Q X := by
  rintro ds Q X ⟨xs, p, m, rfl, hm, h0, hl, hs, hp, q⟩
  have len : ((xs.map D.int).length : Int) = (xs.length : Int) := by rw [List.length_map]
  have i1 : 0 ≤ (p : Int) % (xs.length : Int) := Int.emod_nonneg _ (by omega)
  have i2 : (p : Int) % (xs.length : Int) < (xs.length : Int) := Int.emod_lt_of_pos _ (by omega)
  obtain ⟨j, hj⟩ := Int.eq_ofNat_of_zero_le i1
  have hj2 : j < xs.length := by omega
  have eg : xs[j]? = some xs[j] := List.getElem?_eq_getElem hj2
  generalize xs[j] = x at eg
  have hx := hs x (List.mem_of_getElem? eg)
  have ex : dIx (.lst (xs.map D.int)) (.int ((p : Int) % ((xs.map D.int).length : Int))) = some (.int x) := by
    rw [len, hj]
    exact L2.atI_nat (by rw [List.getElem?_map, eg]; rfl)
  refine ⟨rfl, rfl, show 0 < ((xs.map D.int).length : Int) by omega, ?_⟩
  conv => whnf
  rw [ex]
  have d1 : 0 ≤ (p : Int) / (xs.length : Int) := Int.ediv_nonneg (by omega) (by omega)
  have d2 : (p : Int) / (xs.length : Int) ≤ p := Int.ediv_le_self _ (by omega)
  have l1 : ((xs.map D.int).length : Int).natAbs.log2 < 24 := by
    rw [len]
    exact log_lt (by
      have : line = 2 ^ 24 := by decide
      omega) (by decide)
  refine ⟨⟨show 0 < ((xs.map D.int).length : Int) by omega, show ((xs.map D.int).length : Int).natAbs.log2 < 9000 by omega⟩, ?_⟩
  rw [len]
  have l2 : ((p : Int) / (xs.length : Int)).natAbs.log2 < 20 := log_lt (by
    have : (1000000 : Nat) < 2 ^ 20 := by decide
    omega) (by decide)
  have l7 : (7 : Int).natAbs.log2 < 3 := by decide +kernel
  refine ⟨show ((p : Int) / (xs.length : Int)).natAbs.log2 + (7 : Int).natAbs.log2 < 1000000 by omega, ?_⟩
  refine ⟨show (0 : Int) < m by omega, ?_⟩
  have r1 : 0 ≤ (x + (p : Int) / (xs.length : Int) * 7) % (m : Int) := Int.emod_nonneg _ (by omega)
  have r2 : (x + (p : Int) / (xs.length : Int) * 7) % (m : Int) < (m : Int) := Int.emod_lt_of_pos _ (by omega)
  obtain ⟨r, hr⟩ := Int.eq_ofNat_of_zero_le r1
  rw [hr]
  have := q r (by omega)
  exact ⟨_, _, rfl, rfl, this⟩
def anyPairsF : Fn := ⟨[.io, .sh, .sh], fun ds Q _ => ∃ (xs : List Int) (p n m : Nat), ds = [stD xs p, .int n, .int m] ∧ 0 < xs.length ∧ xs.length < line ∧ small xs ∧ p + 2 * m + 1 < 1000000 ∧ m < 1000 ∧
  ∀ (ps : List (Int × Int)) (p' : Nat), p' ≤ p + 2 * m + 1 → ps.length ≤ m → okG n ps → Q (.fr (ps.map pairD)) [stL xs p']⟩
theorem p_any_pairs (hn : Γ.f "_law_next" = some nextF) : ∀ ds Q X, anyPairsF.sp ds Q X → dDef Γ [.io, .sh, .sh] 1 b_law_any_pairs ds Q X := by
  rintro ds Q X ⟨xs, p, n, m, rfl, h0, hl, hs, hp, hm, q⟩
  by_cases hz : n = 0
  · refine ite_t (show decide ((n : Int) = 0) = true from decide_eq_true (by omega)) ?_
    exact ⟨by decide, _, _, rfl, rfl, q [] p (by omega) (by simp) fun x h => (by cases h)⟩
  · refine ite_f (show ¬ decide ((n : Int) = 0) = true from by simp; omega) ?_
    conv => whnf
    rw [hn]
    refine ⟨(show ([0] : List Nat).Nodup by decide), fun i h1 h2 => (by cases h2), xs, p, m + 1, rfl, by omega, h0, hl, hs, by omega, fun r hr => ?_⟩
    refine ⟨⟨by omega, by omega⟩, rfl, fun k acc ρ => ∃ (ps : List (Int × Int)) (p' : Nat), ρ = [.io (stL xs p'), .sh (.int n), .sh (.int m), .top] ∧ acc = ps.map pairD ∧ ps.length = k ∧ p' = p + 1 + 2 * k ∧ okG n ps, ⟨[], p + 1, rfl, rfl, rfl, rfl, fun x h => (by cases h)⟩, ?_, ?_⟩
    · rintro k acc ρ d hd ⟨ps, p', rfl, rfl, hk, rfl, ok⟩
      obtain ⟨hkr, rfl⟩ := getR hd
      have hkr : k < r := by omega
      refine ⟨rfl, ?_⟩
      conv => whnf
      rw [hn]
      refine ⟨(show ([0] : List Nat).Nodup by decide), fun i h1 h2 => (by cases h2), xs, p + 1 + 2 * k, n, rfl, by omega, h0, hl, hs, by omega, fun a ha => ?_⟩
      conv => whnf
      rw [hn]
      refine ⟨(show ([0] : List Nat).Nodup by decide), fun i h1 h2 => (by cases h2), xs, p + 1 + 2 * k + 1, n, rfl, by omega, h0, hl, hs, by omega, fun b hb => ?_⟩
      have hll : (ps.map pairD).length < line := by
        rw [List.length_map]
        have : (1000 : Nat) < line := by decide
        omega
      refine ⟨(show 2 ≤ line by decide), hll, ps ++ [((a : Int), (b : Int))], p + 1 + 2 * k + 1 + 1, rfl, by rw [List.map_append]; rfl, by rw [List.length_append, hk]; rfl, by omega, fun y hy => ?_⟩
      rcases List.mem_append.mp hy with z | z
      · exact ok y z
      · simp only [List.mem_singleton] at z
        rw [z]
        exact ⟨by simp, by simp; omega, by simp, by simp; omega⟩
    · rintro acc ρ ⟨ps, p', rfl, rfl, hk, rfl, ok⟩
      have e := rngD_len (lo := 0) (hi := (r : Int))
      exact ⟨_, _, rfl, rfl, q ps _ (by omega) (by omega) ok⟩
def chosenF : Fn := ⟨[.io, .sh, .sh], fun ds Q _ => ∃ (xs : List Int) (p n m : Nat), ds = [stD xs p, .int n, .int m] ∧ 0 < xs.length ∧ xs.length < line ∧ small xs ∧ p + m + 1 < 1000000 ∧ m < 1000 ∧
  ∀ (es : List Nat) (p' : Nat), p' ≤ p + m + 1 → es.length ≤ m → (∀ e ∈ es, e < n) → Q (.fr (es.map natD)) [stL xs p']⟩
theorem p_chosen (hn : Γ.f "_law_next" = some nextF) : ∀ ds Q X, chosenF.sp ds Q X → dDef Γ [.io, .sh, .sh] 1 b_law_chosen ds Q X := by
  rintro ds Q X ⟨xs, p, n, m, rfl, h0, hl, hs, hp, hm, q⟩
  by_cases hz : n = 0
  · refine ite_t (show decide ((n : Int) = 0) = true from decide_eq_true (by omega)) ?_
    exact ⟨by decide, _, _, rfl, rfl, q [] p (by omega) (by simp) fun x h => (by cases h)⟩
  · refine ite_f (show ¬ decide ((n : Int) = 0) = true from by simp; omega) ?_
    conv => whnf
    rw [hn]
    refine ⟨(show ([0] : List Nat).Nodup by decide), fun i h1 h2 => (by cases h2), xs, p, m + 1, rfl, by omega, h0, hl, hs, by omega, fun r hr => ?_⟩
    refine ⟨⟨by omega, by omega⟩, rfl, fun k acc ρ => ∃ (es : List Nat) (p' : Nat), ρ = [.io (stL xs p'), .sh (.int n), .sh (.int m), .top] ∧ acc = es.map natD ∧ es.length = k ∧ p' = p + 1 + k ∧ ∀ e ∈ es, e < n, ⟨[], p + 1, rfl, rfl, rfl, rfl, fun x h => (by cases h)⟩, ?_, ?_⟩
    · rintro k acc ρ d hd ⟨es, p', rfl, rfl, hk, rfl, ok⟩
      obtain ⟨hkr, rfl⟩ := getR hd
      have hkr : k < r := by omega
      refine ⟨rfl, ?_⟩
      conv => whnf
      rw [hn]
      refine ⟨(show ([0] : List Nat).Nodup by decide), fun i h1 h2 => (by cases h2), xs, p + 1 + k, n, rfl, by omega, h0, hl, hs, by omega, fun a ha => ?_⟩
      have hll : (es.map natD).length < line := by
        rw [List.length_map]
        have : (1000 : Nat) < line := by decide
        omega
      refine ⟨hll, es ++ [a], p + 1 + k + 1, rfl, by rw [List.map_append]; rfl, by rw [List.length_append, hk]; rfl, by omega, fun y hy => ?_⟩
      rcases List.mem_append.mp hy with z | z
      · exact ok y z
      · simp only [List.mem_singleton] at z
        rw [z]
        exact ha
    · rintro acc ρ ⟨es, p', rfl, rfl, hk, rfl, ok⟩
      have e := rngD_len (lo := 0) (hi := (r : Int))
      exact ⟨_, _, rfl, rfl, q es _ (by omega) (by omega) ok⟩
end
end M
set_option linter.all false
set_option Elab.async false
set_option maxRecDepth 10000
/-! LawB: repr on both sides; k01's judge. -/
namespace M
open PySem (Str PyData)
structure Rp (d : D) : Prop where
  pl : D.pl 20 d = true
  ok : d.rok = true
  rw' : d.rw ≤ line
def big (i : Int) : Prop := i.natAbs < 2 ^ 64
theorem big_log {i : Int} (h : big i) : i.natAbs.log2 < 64 := log_lt h (by decide)
theorem rp_int {i : Int} (h : big i) : Rp (.int i) := by
  have := big_log h
  have l : 66 < line := by decide
  exact ⟨rfl, decide_eq_true (by omega), show i.natAbs.log2 + 2 ≤ line by omega⟩
theorem rw_le {c : Nat} : ∀ {ds : List D}, (∀ d ∈ ds, d.rw ≤ c) → D.rw.rws ds ≤ (c + 2) * ds.length
  | [], _ => Nat.le_refl _
  | d :: ds, h => by
    have h1 := h d List.mem_cons_self
    have h2 := rw_le (c := c) (ds := ds) fun x hx => h x (List.mem_cons_of_mem _ hx)
    show d.rw + 2 + D.rw.rws ds ≤ (c + 2) * (ds.length + 1)
    rw [Nat.mul_succ]
    omega
theorem rok_all : ∀ {ds : List D}, (∀ d ∈ ds, d.rok = true) → D.rok.roks ds = true
  | [], _ => rfl
  | d :: ds, h => by
    show (d.rok && D.rok.roks ds) = true
    rw [h d List.mem_cons_self, rok_all fun x hx => h x (List.mem_cons_of_mem _ hx)] <;> rfl
theorem rp_lst {ds : List D} {c : Nat} (h : ∀ d ∈ ds, D.pl 19 d = true ∧ d.rok = true ∧ d.rw ≤ c) (hl : (c + 2) * ds.length + 3 ≤ line) : Rp (.lst ds) :=
  ⟨List.all_eq_true.mpr fun d hd => (h d hd).1, rok_all fun d hd => (h d hd).2.1, by
    have := rw_le (c := c) (ds := ds) fun d hd => (h d hd).2.2
    show D.rw.rws ds + 3 ≤ line
    omega⟩
theorem rp_ints {l : List Int} (h : ∀ i ∈ l, big i) (hl : l.length ≤ 10000) : Rp (.lst (l.map D.int)) := by
  have ll : 68 * 10000 + 3 ≤ line := by decide
  refine rp_lst (c := 66) (fun d hd => ?_) (by rw [List.length_map]; omega)
  obtain ⟨i, hi, rfl⟩ := List.mem_map.mp hd
  have := big_log (h i hi)
  exact ⟨rfl, decide_eq_true (by omega), show i.natAbs.log2 + 2 ≤ 66 by omega⟩
theorem rp_pairs {ps : List (Int × Int)} (h : ∀ p ∈ ps, big p.1 ∧ big p.2) (hl : ps.length ≤ 10000) : Rp (.lst (ps.map pairD)) := by
  have ll : 142 * 10000 + 3 ≤ line := by decide
  refine rp_lst (c := 139) (fun d hd => ?_) (by rw [List.length_map]; omega)
  obtain ⟨p, hp, rfl⟩ := List.mem_map.mp hd
  have h1 := big_log (h p hp).1
  have h2 := big_log (h p hp).2
  refine ⟨rfl, ?_, ?_⟩
  · show (decide (p.1.natAbs.log2 < 1900) && (decide (p.2.natAbs.log2 < 1900) && true)) = true
    rw [decide_eq_true (by omega), decide_eq_true (by omega)] <;> rfl
  · show (p.1.natAbs.log2 + 2) + 2 + ((p.2.natAbs.log2 + 2) + 2 + 0) + 3 ≤ 139
    omega
theorem rp_bls {l : List Bool} (hl : l.length ≤ 10000) : Rp (.lst (l.map D.bl)) := by
  have ll : 7 * 10000 + 3 ≤ line := by decide
  refine rp_lst (c := 5) (fun d hd => ?_) (by rw [List.length_map]; omega)
  obtain ⟨i, hi, rfl⟩ := List.mem_map.mp hd
  exact ⟨rfl, rfl, Nat.le_refl _⟩
theorem big_of {n : Nat} {p : Int × Int} (h : 0 ≤ p.1 ∧ p.1 < n ∧ 0 ≤ p.2 ∧ p.2 < n) (hn : n < 1000) : big p.1 ∧ big p.2 := by
  have : (1000 : Nat) < 2 ^ 64 := by decide
  unfold big
  constructor <;> omega
theorem big_nat {n : Nat} (h : n < 100000) : big (n : Int) := by
  have : (100000 : Nat) < 2 ^ 64 := by decide
  unfold big
  omega
/-- what is known of the methods too -/
structure JudG (Γ : Tb) : Prop extends ClsG Γ where
  isn : Γ.isn "Graph" = true
  ver : Γ.p "Graph" "vertices" = some verticesF
  edg : Γ.p "Graph" "edges" = some edgesF
  ends : Γ.m "Graph" "ends" = some endsF
  eat : Γ.m "Graph" "edges_at" = some edgesAtF
  deg : Γ.m "Graph" "degree" = some degreeF
def isF : Fn := ⟨[.sh, .sh, .bo], fun ds Q _ => ∃ (n : Nat) (ps : List (Int × Int)), ds = [graphD n ps, .int n, .lst (ps.map pairD)] ∧ okG n ps ∧ n < 1000 ∧ ps.length < 1000 ∧ Q (.sh (.bl true)) []⟩
section
variable {Γ : Tb}
theorem p_is (hf : JudG Γ) : ∀ ds Q X, isF.sp ds Q X → dDef Γ [.sh, .sh, .bo] 8 b_law_is ds Q X := by
  rintro ds Q X ⟨n, ps, rfl, ok, hn, hp, q⟩
  have l2 := lk2 (n := n) (ps := ps)
  have l0 := lk0 (n := n) (ps := ps) (m := "edges_at") (by decide +kernel) (by decide +kernel) (by decide +kernel)
  have l0' := lk0 (n := n) (ps := ps) (m := "ends") (by decide +kernel) (by decide +kernel) (by decide +kernel)
  have l0'' := lk0 (n := n) (ps := ps) (m := "degree") (by decide +kernel) (by decide +kernel) (by decide +kernel)
  have hl : (1000 : Nat) < line := by decide
  have rn : Rp (.int (n : Int)) := rp_int (big_nat (by omega))
  have rps : Rp (.lst (ps.map pairD)) := rp_pairs (fun p h => big_of (ok p h) hn) (by omega)
  have rnp : Rp (.int ((ps.map pairD).length : Int)) := rp_int (big_nat (by rw [List.length_map]; omega))
  refine ⟨hf.isn, ?_⟩
  conv => whnf
  rw [hf.ver]
  refine ⟨List.nodup_nil, fun _ h => (by cases h), n, ps, rfl, rn.pl, rn.ok, rn.rw', rn.pl, rn.ok, rn.rw', ?_⟩
  refine ite_f (by simp) ?_
  conv => whnf
  rw [hf.edg]
  refine ⟨List.nodup_nil, fun _ h => (by cases h), n, ps, rfl, rps.pl, rps.ok, rps.rw', rps.pl, rps.ok, rps.rw', ?_⟩
  refine ite_f (by simp) ?_
  refine ⟨by decide, rfl, ?_⟩
  conv => whnf
  rw [hf.it]
  conv => whnf
  refine ⟨fun k ρ => ∃ s4 s5, ρ = [.sh (graphD n ps), .sh (.int n), .bo (ps.map pairD), .ow ((ps.take k).map pairD), s4, s5, .top, .top, .top, .top, .top] ∧ isIo (some s4) = false ∧ isIo (some s5) = false, ⟨.top, .top, rfl, rfl, rfl⟩, ?_, ?_⟩
  · rintro k ρ d hd ⟨s4, s5, rfl, h4, h5⟩
    rw [List.getElem?_map] at hd
    obtain ⟨p, hp', rfl⟩ := Option.map_eq_some_iff.mp hd
    have hk := (List.getElem?_eq_some_iff.mp hp').1
    refine ⟨h4, h5, rfl, rfl, (show 2 ≤ line by decide), by rw [List.length_map, List.length_take]; omega, .sh (.int p.1), .sh (.int p.2), ?_, rfl, rfl⟩
    rw [List.take_succ_eq_append_getElem hk, (List.getElem?_eq_some_iff.mp hp').2, List.map_append]
    rfl
  · rintro ρ ⟨s4, s5, rfl, h4, h5⟩
    rw [List.length_map, List.take_length]
    refine ⟨rps.pl, rps.ok, rps.rw', rps.pl, rps.ok, rps.rw', ?_⟩
    refine ite_f (by simp) ?_
    conv => whnf
    rw [hf.it]
    refine ⟨rnp.pl, rnp.ok, rnp.rw', rnp.pl, rnp.ok, rnp.rw', ?_⟩
    refine ite_f (by simp) ?_
    refine ⟨⟨by rw [List.length_map]; omega, by rw [List.length_map]; omega⟩, rfl, fun k acc ρ => ρ = [.sh (graphD n ps), .sh (.int n), .bo (ps.map pairD), .ow (ps.map pairD), s4, s5, .top, .top, .top, .top, .top] ∧ acc = (ps.take k).map pairD, ⟨rfl, rfl⟩, ?_, ?_⟩
    · rintro k acc ρ d hd ⟨rfl, rfl⟩
      obtain ⟨hk, rfl⟩ := getR hd
      rw [List.length_map, Int.sub_zero, Int.toNat_natCast] at hk
      rw [Int.zero_add]
      have e0 : ps[k]? = some ps[k] := List.getElem?_eq_getElem hk
      refine ⟨rfl, rfl, by rw [hf.ends] <;> rfl, ?_⟩
      conv => whnf
      rw [hf.ends]
      refine ⟨List.nodup_nil, fun _ h => (by cases h), n, ps, k, ps[k], rfl, e0, ?_⟩
      refine ⟨by rw [List.length_map, List.length_take]; omega, rfl, ?_⟩
      rw [List.take_succ_eq_append_getElem hk, List.map_append]
      rfl
    · rintro acc ρ ⟨rfl, rfl⟩
      have e9 : (ps.take (rngD 0 ((ps.map pairD).length : Int)).length) = ps := by
        rw [rngD_len, List.length_map, Int.sub_zero, Int.toNat_natCast, List.take_length]
      rw [e9]
      refine ⟨rps.pl, rps.ok, rps.rw', rps.pl, rps.ok, rps.rw', ?_⟩
      refine ite_f (by simp) ?_
      refine ⟨⟨by omega, by omega⟩, ?_⟩
      refine ⟨fun k ρ => ∃ s7 s8, ρ = [.sh (graphD n ps), .sh (.int n), .bo (ps.map pairD), .ow (ps.map pairD), s4, s5, .top, s7, s8, .top, .top] ∧ isIo (some s7) = false ∧ isIo (some s8) = false, ⟨.top, .top, rfl, rfl, rfl⟩, ?_, ?_⟩
      · rintro v ρ d hd ⟨s7, s8, rfl, h7, h8⟩
        obtain ⟨hv, rfl⟩ := getR hd
        have hv : v < n := by omega
        rw [Int.zero_add]
        have ra : Rp (.lst ((atG 0 ps v).map D.int)) := rp_ints (fun i hi => by
          obtain ⟨j, hj, rfl⟩ := atG_get (ps := ps) hi
          exact big_nat (by omega)) (by
          have := atG_len v 0 ps
          omega)
        refine ⟨h7, rfl, by rw [hf.eat] <;> rfl, ?_⟩
        conv => whnf
        rw [hf.eat]
        refine ⟨List.nodup_nil, fun _ h => (by cases h), n, ps, v, rfl, hv, ra.pl, ra.ok, ra.rw', ?_⟩
        refine ⟨⟨by rw [List.length_map]; omega, by rw [List.length_map]; omega⟩, rfl, fun j acc ρ => ρ = [.sh (graphD n ps), .sh (.int n), .bo (ps.map pairD), .ow (ps.map pairD), s4, s5, .top, .sh (.int (v : Int)), s8, .top, .top] ∧ acc = (atG 0 (ps.take j) v).map D.int, ⟨rfl, rfl⟩, ?_, ?_⟩
        · rintro j acc ρ d hd ⟨rfl, rfl⟩
          obtain ⟨hj, rfl⟩ := getR hd
          rw [List.length_map, Int.sub_zero, Int.toNat_natCast] at hj
          rw [Int.zero_add]
          have e0 : (ps.map pairD)[j]? = some (pairD ps[j]) := by rw [List.getElem?_map, List.getElem?_eq_getElem hj] <;> rfl
          have es : atG 0 (ps.take (j + 1)) (v : Int) = atG 0 (ps.take j) v ++ (if ps[j].1 = (v : Int) ∨ ps[j].2 = (v : Int) then [(j : Int)] else []) := by
            rw [List.take_succ_eq_append_getElem hj, atG_snoc, List.length_take, Nat.min_eq_left (Nat.le_of_lt hj), Nat.zero_add]
          have la : ((atG 0 (ps.take j) (v : Int)).map D.int).length < line := by
            rw [List.length_map]
            have := atG_len v 0 (ps.take j)
            rw [List.length_take] at this
            omega
          generalize ps[j] = p at e0 es
          refine ⟨rfl, ?_⟩
          refine w1_at (lst_at e0) ?_
          by_cases hm : p.1 = (v : Int) ∨ p.2 = (v : Int)
          · refine ite_t (show decide ((v : Int) ∈ [p.1, p.2]) = true from decide_eq_true (by simp only [List.mem_cons, List.not_mem_nil, or_false]; exact hm.imp Eq.symm Eq.symm)) ?_
            refine ⟨la, rfl, ?_⟩
            rw [es, if_pos hm, List.map_append] <;> rfl
          · refine ite_f (show ¬ decide ((v : Int) ∈ [p.1, p.2]) = true from fun z => hm (by
              have := of_decide_eq_true z
              simp only [List.mem_cons, List.not_mem_nil, or_false] at this
              exact this.imp Eq.symm Eq.symm)) ?_
            refine ⟨rfl, ?_⟩
            rw [es, if_neg hm, List.append_nil]
        · rintro acc ρ ⟨rfl, rfl⟩
          rw [e9]
          refine ⟨ra.pl, ra.ok, ra.rw', ?_⟩
          refine ite_f (by simp) ?_
          let ρE : En := [.sh (graphD n ps), .sh (.int n), .bo (ps.map pairD), .ow (ps.map pairD), s4, s5, .top, .sh (.int (v : Int)), s8, .top, .top]
          have lm : ∀ (f : Int × Int → D) (j : Nat), ((ps.take j).map f).length < line := fun f j => by
            rw [List.length_map, List.length_take]
            omega
          refine ⟨rfl, fun j acc ρ => ρ = ρE ∧ acc = (ps.take j).map fun p => D.int p.1, ⟨rfl, rfl⟩, ?_, ?_⟩
          · rintro j acc ρ d hd ⟨rfl, rfl⟩
            rw [List.getElem?_map] at hd
            obtain ⟨p, hp', rfl⟩ := Option.map_eq_some_iff.mp hd
            have hk := (List.getElem?_eq_some_iff.mp hp').1
            refine ⟨rfl, lm _ j, rfl, ?_⟩
            rw [List.take_succ_eq_append_getElem hk, (List.getElem?_eq_some_iff.mp hp').2, List.map_append]
            rfl
          · rintro acc ρ ⟨rfl, rfl⟩
            rw [List.length_map, List.take_length]
            refine ⟨rfl, fun j acc ρ => ρ = ρE ∧ acc = (ps.take j).map fun p => D.int p.2, ⟨rfl, rfl⟩, ?_, ?_⟩
            · rintro j acc ρ d hd ⟨rfl, rfl⟩
              rw [List.getElem?_map] at hd
              obtain ⟨p, hp', rfl⟩ := Option.map_eq_some_iff.mp hd
              have hk := (List.getElem?_eq_some_iff.mp hp').1
              refine ⟨rfl, lm _ j, rfl, ?_⟩
              rw [List.take_succ_eq_append_getElem hk, (List.getElem?_eq_some_iff.mp hp').2, List.map_append]
              rfl
            · rintro acc ρ ⟨rfl, rfl⟩
              rw [List.length_map, List.take_length]
              have hl2 : (2000 : Nat) < line := by decide
              refine ⟨by rw [List.length_map, List.length_map]; omega, h8, ?_⟩
              have eends : (ps.map fun p => D.int p.1) ++ (ps.map fun p => D.int p.2) = ((ps.map fun p => p.1) ++ (ps.map fun p => p.2)).map D.int := by
                rw [List.map_append, List.map_map, List.map_map] <;> rfl
              rw [eends]
              generalize hen : (ps.map fun p => p.1) ++ (ps.map fun p => p.2) = en
              have lend : en.length = 2 * ps.length := by
                rw [← hen, List.length_append, List.length_map, List.length_map]
                omega
              have edeg : (en.filter fun x => decide (x = (v : Int))).length = degG ps v := by
                rw [← hen, List.filter_append, List.length_append, List.filter_map, List.filter_map, List.length_map, List.length_map] <;> rfl
              have rd : Rp (.int (degG ps v : Int)) := rp_int (big_nat (by
                rw [← edeg]
                have := List.length_filter_le (fun x => decide (x = (v : Int))) en
                omega))
              refine ⟨rfl, by rw [hf.deg] <;> rfl, ?_⟩
              conv => whnf
              rw [hf.deg]
              refine ⟨List.nodup_nil, fun _ h => (by cases h), n, ps, v, rfl, hv, by omega, rd.pl, rd.ok, rd.rw', ?_⟩
              refine ⟨rfl, fun j acc ρ => ρ = [.sh (graphD n ps), .sh (.int n), .bo (ps.map pairD), .ow (ps.map pairD), s4, s5, .top, .sh (.int (v : Int)), .sh (.lst (en.map D.int)), .top, .top] ∧ acc = ((en.take j).filter fun x => decide (x = (v : Int))).map D.int, ⟨rfl, rfl⟩, ?_, ?_⟩
              · rintro j acc ρ d hd ⟨rfl, rfl⟩
                rw [List.getElem?_map] at hd
                obtain ⟨x, hx, rfl⟩ := Option.map_eq_some_iff.mp hd
                have hk := (List.getElem?_eq_some_iff.mp hx).1
                have es : ((en.take (j + 1)).filter fun x => decide (x = (v : Int))) = ((en.take j).filter fun x => decide (x = (v : Int))) ++ (if x = (v : Int) then [x] else []) := by
                  rw [List.take_succ_eq_append_getElem hk, (List.getElem?_eq_some_iff.mp hx).2, List.filter_append, List.filter_cons]
                  simp only [decide_eq_true_eq, List.filter_nil]
                have la : (((en.take j).filter fun x => decide (x = (v : Int))).map D.int).length < line := by
                  rw [List.length_map]
                  have h1 := List.length_filter_le (fun x => decide (x = (v : Int))) (en.take j)
                  rw [List.length_take] at h1
                  omega
                refine ⟨rfl, ?_⟩
                by_cases hm : x = (v : Int)
                · refine ite_t (show decide (x = (v : Int)) = true from decide_eq_true hm) ?_
                  refine ⟨la, rfl, ?_⟩
                  rw [es, if_pos hm, List.map_append] <;> rfl
                · refine ite_f (show ¬ decide (x = (v : Int)) = true from by simp [hm]) ?_
                  refine ⟨rfl, ?_⟩
                  rw [es, if_neg hm, List.append_nil]
              · rintro acc ρ ⟨rfl, rfl⟩
                rw [List.length_map, List.take_length]
                have e10 : ((((en.filter fun x => decide (x = (v : Int))).map D.int).length : Nat) : Int) = (degG ps v : Int) := by
                  rw [List.length_map, edeg]
                refine ⟨?_, ?_, ?_, ?_⟩
                · rw [e10]
                  exact rd.pl
                · rw [e10]
                  exact rd.ok
                · rw [e10]
                  exact rd.rw'
                · rw [e10]
                  refine ite_f (by simp) ?_
                  exact ⟨_, _, rfl, rfl, rfl⟩
      · rintro ρ ⟨s7, s8, rfl, h7, h8⟩
        exact ⟨_, _, rfl, rfl, q⟩
end
end M
set_option linter.all false
set_option Elab.async false
set_option maxRecDepth 10000
set_option maxHeartbeats 4000000
/-! LawC: the law of k01. -/
namespace M
open PySem PySem.Spec PyProof.Rows L2 C8
structure LawG (Γ : Tb) : Prop extends JudG Γ where
  mkr : Γ.mke "Graph" = some mkG
  state : Γ.f "_law_state" = some stateF
  next : Γ.f "_law_next" = some nextF
  anyp : Γ.f "_law_any_pairs" = some anyPairsF
  chos : Γ.f "_law_chosen" = some chosenF
  is : Γ.f "_law_is" = some isF
  tur : Γ.m "Graph" "turned" = some turnedF
  wit : Γ.m "Graph" "without" = some withoutF
  eqm : Γ.m "Graph" "__eq__" = some eqF
def lawF : Fn := ⟨[.sh], fun ds Q _ => ∃ ns, ds = [.scr ns] ∧ ns.length ≤ 63 ∧ Q (.sh (.bl true)) []⟩
section
variable {Γ : Tb}
theorem eqv_nats : ∀ (xs ys : List Nat), PyData.eqvAll ((xs.map natD).map D.py) ((ys.map natD).map D.py) = decide (xs = ys)
  | [], [] => rfl
  | [], _ :: _ => rfl
  | _ :: _, [] => rfl
  | p :: ps, q :: qs => by
    show ((((p : Int) == (q : Int)) : Bool) && PyData.eqvAll ((ps.map natD).map D.py) ((qs.map natD).map D.py)) = _
    rw [eqv_nats ps qs, Bool.eq_iff_iff, Bool.and_eq_true, beq_iff_eq, decide_eq_true_eq, decide_eq_true_eq, List.cons.injEq, Int.ofNat_inj]
theorem pl_nats (k : Nat) (es : List Nat) : D.pl (k + 1) (.lst (es.map natD)) = true := by
  show (es.map natD).all (D.pl k) = true
  rw [List.all_map, List.all_eq_true]
  intro p _
  cases k <;> rfl
theorem dNe_nats (es : List Nat) : dCm .ne (.lst (es.map natD)) (.lst (es.map natD)) = some false := by
  show Option.map (!·) (if D.pl 20 (.lst (es.map natD)) && D.pl 20 (.lst (es.map natD)) then some (PyData.eqv (D.lst (es.map natD)).py (D.lst (es.map natD)).py) else none) = _
  rw [pl_nats 19, Bool.and_self, if_pos (rfl : true = true), py_lst]
  show some (!PyData.eqvAll ((es.map natD).map D.py) ((es.map natD).map D.py)) = _
  rw [eqv_nats, decide_eq_true rfl] <;> rfl
theorem dNe_pairs (ps : List (Int × Int)) : dCm .ne (.lst (ps.map pairD)) (.lst (ps.map pairD)) = some false := by
  show Option.map (!·) (dEq (.lst (ps.map pairD)) (.lst (ps.map pairD))) = _
  rw [dEq_pairs, decide_eq_true rfl] <;> rfl
theorem dIn_nats (e : Nat) (es : List Nat) : dIn (.int (e : Int)) (es.map natD) = some (decide (e ∈ es)) := by
  unfold dIn
  rw [show D.pl 20 (.int (e : Int)) = true from rfl, show (es.map natD).all (D.pl 20) = true from pl_nats 20 es, Bool.and_self, if_pos (rfl : true = true), List.any_map]
  congr 1
  rw [Bool.eq_iff_iff, List.any_eq_true, decide_eq_true_eq]
  constructor
  · rintro ⟨x, hx, h⟩
    have h2 : ((x : Int) == (e : Int)) = true := h
    have : x = e := Int.ofNat_inj.mp (beq_iff_eq.mp h2)
    rw [← this]
    exact hx
  · intro h
    exact ⟨e, h, (show ((e : Int) == (e : Int)) = true by simp)⟩
theorem turn_turn (ps : List (Int × Int)) (es : List Nat) : turnG (turnG ps es) es = ps := by
  unfold turnG
  rw [List.mapIdx_mapIdx]
  apply List.ext_getElem?
  intro i
  rw [List.getElem?_mapIdx]
  cases ps[i]? with
  | none => rfl
  | some p =>
    show some (turnP es i (turnP es i p)) = some p
    unfold turnP
    by_cases h : i ∈ es
    · rw [if_pos h, if_pos h]
    · rw [if_neg h, if_neg h]
theorem turn_len (ps : List (Int × Int)) (es : List Nat) : (turnG ps es).length = ps.length := by
  unfold turnG
  rw [List.length_mapIdx]
def tlS : Nat → Ss → Ss
  | 0, s => s
  | _ + 1, .nil => .nil
  | n + 1, .cons _ s => tlS n s
end
end M
set_option linter.all false
set_option Elab.async false
set_option maxRecDepth 10000
/-! K11B: the defs of rows and balance, in the small syntax (printed by gen.py). -/
namespace M
open PySem (Str PyData)
/-- check_vertex: 0 graph 1 vertex -/
def b_check_vertex : Ss :=
  (.cons (.iff (.not (.chn .le .lt (.int 0) (.var 1) (.prop (.var 0) "vertices")))
   (.cons (.rais "UnknownVertex" (.cons (.var 1) .nil))
    .nil)
   .nil)
  .nil)
def n_check_vertex : List Str := ["graph", "vertex"]
/-- check_row: 0 graph 1 row -/
def b_check_row : Ss :=
  (.cons (.iff (.cmp .ne (.bi .len (.cons (.var 1) .nil)) (.leni (.var 0)))
   (.cons (.rais "BadRow" (.cons (.bi .len (.cons (.var 1) .nil)) .nil))
    .nil)
   .nil)
  .nil)
def n_check_row : List Str := ["graph", "row"]
/-- imbalances: 0 graph 1 row 2 rest 3 edge 4 tail 5 head -/
def b_imbalances : Ss :=
  (.cons (.asg (.nm 2) (.bin .mul (.lst (.cons (.int 0) .nil)) (.prop (.var 0) "vertices")))
  (.cons (.forr (.tp (.nm 3) (.tp (.tp (.nm 4) (.tp (.nm 5) .tz)) .tz)) (.enu (.var 0))
   (.cons (.augs (.var 2) (.var 4) .sub (.ix (.var 1) (.var 3)))
    (.cons (.augs (.var 2) (.var 5) .add (.ix (.var 1) (.var 3)))
    .nil)))
  (.cons (.ret (.var 2))
  .nil)))
def n_imbalances : List Str := ["graph", "row", "rest", "edge", "tail", "head"]
/-- imbalance: 0 graph 1 row 2 vertex -/
def b_imbalance : Ss :=
  (.cons (.ex (.call "check_row" (.cons (.var 0) (.cons (.var 1) .nil))))
  (.cons (.ex (.call "check_vertex" (.cons (.var 0) (.cons (.var 2) .nil))))
  (.cons (.ret (.ix (.call "imbalances" (.cons (.var 0) (.cons (.var 1) .nil))) (.var 2)))
  .nil)))
def n_imbalance : List Str := ["graph", "row", "vertex"]
/-- is_balanced: 0 graph 1 row 2 modulus 3 rest -/
def b_is_balanced : Ss :=
  (.cons (.ex (.call "check_row" (.cons (.var 0) (.cons (.var 1) .nil))))
  (.cons (.iff (.cmp .lt (.var 2) (.int 0))
   (.cons (.rais "BadModulus" (.cons (.var 2) .nil))
    .nil)
   .nil)
  (.cons (.iff (.cmp .eq (.var 2) (.int 0))
   (.cons (.ret (.cmp .eq (.call "imbalances" (.cons (.var 0) (.cons (.var 1) .nil))) (.bin .mul (.lst (.cons (.int 0) .nil)) (.prop (.var 0) "vertices"))))
    .nil)
   .nil)
  (.cons (.ret (.cmp .eq (.lc (.bin .mod (.var 3) (.var 2)) (.nm 3) (.ex (.call "imbalances" (.cons (.var 0) (.cons (.var 1) .nil)))) .nil [("rest", 3)]) (.bin .mul (.lst (.cons (.int 0) .nil)) (.prop (.var 0) "vertices"))))
  .nil))))
def n_is_balanced : List Str := ["graph", "row", "modulus", "rest"]
/-- _law_shuffled: 0 state 1 many 2 row 3 k 4 other 5 kept -/
def b_law_shuffled : Ss :=
  (.cons (.asg (.nm 2) (.lrg (.cons (.var 1) .nil)))
  (.cons (.forr (.nm 3) (.rng (.cons (.var 1) .nil))
   (.cons (.asg (.nm 4) (.call "_law_next" (.cons (.var 0) (.cons (.bin .add (.var 3) (.int 1)) .nil))))
    (.cons (.asg (.nm 5) (.ix (.var 2) (.var 3)))
    (.cons (.set (.var 2) (.var 3) (.ix (.var 2) (.var 4)))
    (.cons (.set (.var 2) (.var 4) (.var 5))
    .nil)))))
  (.cons (.ret (.var 2))
  .nil)))
def n_law_shuffled : List Str := ["state", "many", "row", "k", "other", "kept"]
/-- _law_rests: 0 many 1 pairs 2 row 3 rests 4 vertex 5 edge -/
def b_law_rests : Ss :=
  (.cons (.asg (.nm 3) (.lc (.int 0) (.nm 4) (.rng (.cons (.var 0) .nil)) .nil [("vertex", 4)]))
  (.cons (.forr (.nm 5) (.rng (.cons (.bi .len (.cons (.var 1) .nil)) .nil))
   (.cons (.set (.var 3) (.ix (.ix (.var 1) (.var 5)) (.int 1)) (.bin .add (.ix (.var 3) (.ix (.ix (.var 1) (.var 5)) (.int 1))) (.ix (.var 2) (.var 5))))
    (.cons (.set (.var 3) (.ix (.ix (.var 1) (.var 5)) (.int 0)) (.bin .sub (.ix (.var 3) (.ix (.ix (.var 1) (.var 5)) (.int 0))) (.ix (.var 2) (.var 5))))
    .nil)))
  (.cons (.ret (.var 3))
  .nil)))
def n_law_rests : List Str := ["many", "pairs", "row", "rests", "vertex", "edge"]
/-- _law_some_flow: 0 state 1 many 2 pairs 3 most 4 row 5 pair 6 turn 7 edge 8 came 9 vertex 10 order 11 k 12 other 13 first 14 last 15 sign 16 times -/
def b_law_some_flow : Ss :=
  (.cons (.asg (.nm 4) (.lc (.int 0) (.nm 5) (.ex (.var 2)) .nil [("pair", 5)]))
  (.cons (.forr (.nm 6) (.rng (.cons (.call "_law_next" (.cons (.var 0) (.cons (.int 5) .nil))) .nil))
   (.cons (.asg (.nm 7) (.ife (.cmp .gt (.bi .len (.cons (.var 2) .nil)) (.int 0)) (.call "_law_next" (.cons (.var 0) (.cons (.bi .len (.cons (.var 2) .nil)) .nil))) (.neg (.int 1))))
    (.cons (.asg (.nm 8) (.lc (.ife (.and (.cons (.cmp .ge (.var 7) (.int 0)) (.cons (.cmp .eq (.var 9) (.ix (.ix (.var 2) (.var 7)) (.int 1))) .nil))) (.lst .nil) .non) (.nm 9) (.rng (.cons (.var 1) .nil)) .nil [("vertex", 9)]))
    (.cons (.asg (.nm 10) (.call "_law_shuffled" (.cons (.var 0) (.cons (.bi .len (.cons (.var 2) .nil)) .nil))))
    (.cons (.forr (.nm 11) (.rng (.cons (.var 1) .nil))
     (.cons (.forr (.nm 12) (.ex (.var 10))
       (.cons (.forr (.tp (.nm 13) (.tp (.nm 14) (.tp (.nm 15) .tz))) (.ex (.lst (.cons (.tup (.cons (.ix (.ix (.var 2) (.var 12)) (.int 0)) (.cons (.ix (.ix (.var 2) (.var 12)) (.int 1)) (.cons (.int 1) .nil)))) (.cons (.tup (.cons (.ix (.ix (.var 2) (.var 12)) (.int 1)) (.cons (.ix (.ix (.var 2) (.var 12)) (.int 0)) (.cons (.neg (.int 1)) .nil)))) .nil))))
         (.cons (.iff (.and (.cons (.cmp .ne (.var 12) (.var 7)) (.cons (.cmp .isnot (.ix (.var 8) (.var 13)) .non) (.cons (.cmp .is (.ix (.var 8) (.var 14)) .non) .nil))))
           (.cons (.set (.var 8) (.var 14) (.bin .add (.ix (.var 8) (.var 13)) (.lst (.cons (.tup (.cons (.var 12) (.cons (.var 15) .nil))) .nil))))
            .nil)
           .nil)
          .nil))
        .nil))
      .nil))
    (.cons (.asg (.nm 16) (.ife (.cmp .eq (.call "_law_next" (.cons (.var 0) (.cons (.int 2) .nil))) (.int 0)) (.bin .add (.int 1) (.call "_law_next" (.cons (.var 0) (.cons (.var 3) .nil)))) (.bin .sub (.neg (.int 1)) (.call "_law_next" (.cons (.var 0) (.cons (.var 3) .nil))))))
    (.cons (.iff (.and (.cons (.cmp .ge (.var 7) (.int 0)) (.cons (.cmp .isnot (.ix (.var 8) (.ix (.ix (.var 2) (.var 7)) (.int 0))) .non) .nil)))
     (.cons (.forr (.tp (.nm 12) (.tp (.nm 15) .tz)) (.ex (.bin .add (.ix (.var 8) (.ix (.ix (.var 2) (.var 7)) (.int 0))) (.lst (.cons (.tup (.cons (.var 7) (.cons (.int 1) .nil))) .nil))))
       (.cons (.set (.var 4) (.var 12) (.bin .add (.ix (.var 4) (.var 12)) (.bin .mul (.var 15) (.var 16))))
        .nil))
      .nil)
     .nil)
    .nil)))))))
  (.cons (.ret (.var 4))
  .nil)))
def n_law_some_flow : List Str := ["state", "many", "pairs", "most", "row", "pair", "turn", "edge", "came", "vertex", "order", "k", "other", "first", "last", "sign", "times"]
/-- _law_great: 0 state 1 number 2 k -/
def b_law_great : Ss :=
  (.cons (.asg (.nm 1) (.int 0))
  (.cons (.forr (.nm 2) (.rng (.cons (.bin .add (.int 1) (.call "_law_next" (.cons (.var 0) (.cons (.int 10) .nil)))) .nil))
   (.cons (.asg (.nm 1) (.bin .add (.bin .mul (.var 1) (.int 1000)) (.call "_law_next" (.cons (.var 0) (.cons (.int 1000) .nil)))))
    .nil))
  (.cons (.ret (.ife (.cmp .eq (.call "_law_next" (.cons (.var 0) (.cons (.int 2) .nil))) (.int 0)) (.var 1) (.bin .sub (.int 0) (.var 1))))
  .nil)))
def n_law_great : List Str := ["state", "number", "k"]
/-- _law_error: 0 kind 1 graph 2 row 3 what 4 e -/
def b_law_error : Ss :=
  (.cons (.tryx (.cons (.iff (.cmp .eq (.var 0) (.str "imbalance"))
     (.cons (.ex (.call "imbalance" (.cons (.var 1) (.cons (.var 2) (.cons (.var 3) .nil)))))
      .nil)
     (.cons (.ex (.callk "is_balanced" (.cons (.var 1) (.cons (.var 2) .nil)) ["modulus"] (.cons (.var 3) .nil)))
      .nil))
    .nil) 4 "FlowError" (.iff (.is "BadRow") (.tup (.cons (.str "row") (.cons (.att "length") .nil))) (.iff (.and (.is "UnknownVertex") (.not (.is "UnknownEdge"))) (.tup (.cons (.str "vertex") (.cons (.att "vertex") .nil))) (.ret (.ife (.is "BadModulus") (.tup (.cons (.str "modulus") (.cons (.att "modulus") .nil))) (.tup (.cons (.str "other") (.cons (.int 0) .nil))))))))
  (.cons (.ret .non)
  .nil))
def n_law_error : List Str := ["kind", "graph", "row", "what", "e"]
/-- _law_asked: 0 graph 1 many 2 pairs 3 passed 4 modulus 5 kept 6 rests 7 vertex 8 flow 9 rest 10 told 11 parted -/
def b_law_asked : Ss :=
  (.cons (.asg (.nm 5) (.bi .list (.cons (.var 3) .nil)))
  (.cons (.asg (.nm 6) (.call "_law_rests" (.cons (.var 1) (.cons (.var 2) (.cons (.var 5) .nil)))))
  (.cons (.iff (.cmp .ne (.bi .repr (.cons (.lc (.call "imbalance" (.cons (.var 0) (.cons (.var 3) (.cons (.var 7) .nil)))) (.nm 7) (.rng (.cons (.var 1) .nil)) .nil [("vertex", 7)]) .nil)) (.bi .repr (.cons (.var 6) .nil)))
   (.cons (.ret (.bl false))
    .nil)
   .nil)
  (.cons (.asg (.nm 8) (.cmp .eq (.lc (.var 9) (.nm 9) (.ex (.var 6)) (.cons (.cmp .ne (.var 9) (.int 0)) .nil) [("rest", 9)]) (.lst .nil)))
  (.cons (.asg (.nm 10) (.lst (.cons (.call "is_balanced" (.cons (.var 0) (.cons (.var 3) .nil))) (.cons (.callk "is_balanced" (.cons (.var 0) (.cons (.var 3) .nil)) ["modulus"] (.cons (.int 0) .nil)) (.cons (.callk "is_balanced" (.cons (.var 0) (.cons (.var 3) .nil)) ["modulus"] (.cons (.int 1) .nil)) .nil)))))
  (.cons (.app (.var 10) (.callk "is_balanced" (.cons (.var 0) (.cons (.var 3) .nil)) ["modulus"] (.cons (.var 4) .nil)))
  (.cons (.asg (.nm 11) (.cmp .eq (.lc (.var 9) (.nm 9) (.ex (.var 6)) (.cons (.cmp .ne (.bin .mod (.bi .int (.cons (.var 9) .nil)) (.var 4)) (.int 0)) .nil) [("rest", 9)]) (.lst .nil)))
  (.cons (.ret (.and (.cons (.cmp .eq (.bi .repr (.cons (.var 10) .nil)) (.bi .repr (.cons (.lst (.cons (.var 8) (.cons (.var 8) (.cons (.bl true) (.cons (.var 11) .nil))))) .nil))) (.cons (.cmp .eq (.var 3) (.var 5)) .nil))))
  .nil))))))))
def n_law_asked : List Str := ["graph", "many", "pairs", "passed", "modulus", "kept", "rests", "vertex", "flow", "rest", "told", "parted"]
/-- law: 0 script 1 state 2 many 3 pairs 4 graph 5 modulus 6 row 7 more 8 amount 9 wild 10 pair 11 near 12 passed 13 longer 14 bad 15 told 16 due -/
def b_law11 : Ss :=
  (.cons (.asg (.nm 1) (.call "_law_state" (.cons (.var 0) (.cons (.int 0) (.cons (.int 14) .nil)))))
  (.cons (.asg (.nm 2) (.call "_law_next" (.cons (.var 1) (.cons (.int 9) .nil))))
  (.cons (.asg (.nm 3) (.call "_law_any_pairs" (.cons (.var 1) (.cons (.var 2) (.cons (.int 12) .nil)))))
  (.cons (.asg (.nm 4) (.make "Graph" (.cons (.var 2) (.cons (.bi .list (.cons (.var 3) .nil)) .nil))))
  (.cons (.asg (.nm 5) (.bin .add (.int 1) (.call "_law_next" (.cons (.var 1) (.cons (.int 12) .nil)))))
  (.cons (.iff (.cmp .eq (.call "_law_next" (.cons (.var 1) (.cons (.int 4) .nil))) (.int 0))
   (.cons (.asg (.nm 5) (.bin .add (.int 1) (.bin .fdiv (.bi .abs (.cons (.call "_law_great" (.cons (.var 1) .nil)) .nil)) (.bin .pow (.int 10) (.int 9)))))
    .nil)
   .nil)
  (.cons (.asg (.nm 6) (.call "_law_some_flow" (.cons (.var 1) (.cons (.var 2) (.cons (.var 3) (.cons (.int 900) .nil))))))
  (.cons (.asg (.nm 7) (.lc (.bin .add (.var 8) (.bin .mul (.bi .int (.cons (.bin .sub (.call "_law_next" (.cons (.var 1) (.cons (.int 7) .nil))) (.int 3)) .nil)) (.var 5))) (.nm 8) (.ex (.var 6)) .nil [("amount", 8)]))
  (.cons (.asg (.nm 9) (.lc (.call "_law_great" (.cons (.var 1) .nil)) (.nm 10) (.ex (.var 3)) .nil [("pair", 10)]))
  (.cons (.asg (.nm 11) (.bi .list (.cons (.var 6) .nil)))
  (.cons (.iff (.cmp .gt (.bi .len (.cons (.var 6) .nil)) (.int 0))
   (.cons (.set (.var 11) (.call "_law_next" (.cons (.var 1) (.cons (.bi .len (.cons (.var 6) .nil)) .nil))) (.bin .sub (.call "_law_next" (.cons (.var 1) (.cons (.int 50) .nil))) (.int 25)))
    .nil)
   .nil)
  (.cons (.forr (.nm 12) (.ex (.lst (.cons (.var 6) (.cons (.var 7) (.cons (.var 9) (.cons (.var 11) (.cons (.lc (.int 1) (.nm 10) (.ex (.var 3)) .nil [("pair", 10)]) .nil)))))))
   (.cons (.iff (.not (.ex (.call "_law_asked" (.cons (.var 4) (.cons (.var 2) (.cons (.var 3) (.cons (.var 12) (.cons (.var 5) .nil))))))))
     (.cons (.ret (.bl false))
      .nil)
     .nil)
    .nil))
  (.cons (.asg (.nm 13) (.bin .add (.var 9) (.lst (.cons (.int 0) .nil))))
  (.cons (.asg (.nm 14) (.bin .sub (.neg (.int 1)) (.call "_law_next" (.cons (.var 1) (.cons (.int 9) .nil)))))
  (.cons (.asg (.nm 15) (.lst (.cons (.call "_law_error" (.cons (.str "imbalance") (.cons (.var 4) (.cons (.var 13) (.cons (.var 14) .nil))))) (.cons (.call "_law_error" (.cons (.str "balance") (.cons (.var 4) (.cons (.var 13) (.cons (.var 14) .nil))))) .nil))))
  (.cons (.asg (.nm 15) (.bin .add (.var 15) (.lst (.cons (.call "_law_error" (.cons (.str "imbalance") (.cons (.var 4) (.cons (.var 9) (.cons (.var 14) .nil))))) (.cons (.call "_law_error" (.cons (.str "imbalance") (.cons (.var 4) (.cons (.var 9) (.cons (.var 2) .nil))))) .nil)))))
  (.cons (.asg (.nm 15) (.bin .add (.var 15) (.lst (.cons (.call "_law_error" (.cons (.str "balance") (.cons (.var 4) (.cons (.var 9) (.cons (.var 14) .nil))))) (.cons (.call "_law_error" (.cons (.str "balance") (.cons (.var 4) (.cons (.var 13) (.cons (.int 3) .nil))))) .nil)))))
  (.cons (.asg (.nm 16) (.lst (.cons (.tup (.cons (.str "row") (.cons (.bi .len (.cons (.var 13) .nil)) .nil))) (.cons (.tup (.cons (.str "row") (.cons (.bi .len (.cons (.var 13) .nil)) .nil))) (.cons (.tup (.cons (.str "vertex") (.cons (.var 14) .nil))) (.cons (.tup (.cons (.str "vertex") (.cons (.var 2) .nil))) (.cons (.tup (.cons (.str "modulus") (.cons (.var 14) .nil))) .nil)))))))
  (.cons (.iff (.cmp .ne (.bi .repr (.cons (.var 15) .nil)) (.bi .repr (.cons (.bin .add (.var 16) (.lst (.cons (.tup (.cons (.str "row") (.cons (.bi .len (.cons (.var 13) .nil)) .nil))) .nil))) .nil)))
   (.cons (.ret (.bl false))
    .nil)
   .nil)
  (.cons (.ret (.or (.cons (.cmp .eq (.bi .len (.cons (.var 9) .nil)) (.int 0)) (.cons (.cmp .eq (.bi .repr (.cons (.call "_law_error" (.cons (.str "balance") (.cons (.var 4) (.cons (.sl (.var 9) (.cons (.int 1) .nil) .nil) (.cons (.int 0) .nil))))) .nil)) (.bi .repr (.cons (.tup (.cons (.str "row") (.cons (.bin .sub (.bi .len (.cons (.var 9) .nil)) (.int 1)) .nil))) .nil))) .nil))))
  .nil))))))))))))))))))))
def n_law11 : List Str := ["script", "state", "many", "pairs", "graph", "modulus", "row", "more", "amount", "wild", "pair", "near", "passed", "longer", "bad", "told", "due"]
end M
set_option linter.all false
set_option Elab.async false
set_option maxRecDepth 10000
set_option maxHeartbeats 4000000
/-! K11P: the program's defs. -/
namespace M
open PySem PySem.Spec PyProof.Rows L2 C8
section
variable {Γ : Tb}
def okV (n : Nat) (v : Int) : Prop := 0 ≤ v ∧ v < n
def checkVX : Fn := ⟨[.sh, .sh], fun ds Q X => ∃ (n : Nat) (ps : List (Int × Int)) (v : Int), ds = [graphD n ps, .int v] ∧ v.natAbs.log2 < 1900 ∧ (okV n v → Q (.sh .non) []) ∧ (¬ okV n v → X ⟨"UnknownVertex", [("vertex", .int v)]⟩)⟩
def exOne (c f : Str) (Γ : Tb) : Prop := ∃ fx, Γ.exn c = some fx ∧ ∀ i : Int, i.natAbs.log2 < 1900 → fx [.int i] = some [(f, .int i)]
theorem p_check_vertex (hv : Γ.p "Graph" "vertices" = some verticesF) (he : exOne "UnknownVertex" "vertex" Γ) : ∀ ds Q X, checkVX.sp ds Q X → dDef Γ [.sh, .sh] 0 b_check_vertex ds Q X := by
  rintro ds Q X ⟨n, ps, v, rfl, hs, q1, q2⟩
  obtain ⟨fx, e1, e2⟩ := he
  have bad : ¬ okV n v → dSs Γ (.cons (.rais "UnknownVertex" (.cons (.var 1) .nil)) .nil) [.sh (graphD n ps), .sh (.int v)] ⟨fun _ => False, fun _ _ => False, fun _ => False, fun _ => False, fun x _ => X x⟩ := fun h => by
    refine ⟨by show 1 ≤ 1000; decide, ?_⟩
    refine w1_at e1 ?_
    exact w1_at (e2 v hs) (q2 h)
  by_cases h0 : 0 ≤ v
  · refine ite_t (decide_eq_true h0) ?_
    conv => whnf
    rw [hv]
    refine ⟨List.nodup_nil, fun _ h => (by cases h), n, ps, rfl, ?_⟩
    by_cases h1 : v < n
    · refine ite_f (c := (!decide (v < (n : Int))) = true) (by simp [h1]) ?_
      exact ⟨_, rfl, q1 ⟨h0, h1⟩⟩
    · refine ite_t (c := (!decide (v < (n : Int))) = true) (by simp [h1]) ?_
      exact bad fun z => h1 z.2
  · refine ite_f (c := decide (0 ≤ v) = true) (by simp [h0]) ?_
    exact bad fun z => h0 z.1
def checkRX : Fn := ⟨[.sh, .bo], fun ds Q X => ∃ (n : Nat) (ps : List (Int × Int)) (row : List D), ds = [graphD n ps, .lst row] ∧ row.length ≤ line ∧ (row.length = ps.length → Q (.sh .non) []) ∧ (row.length ≠ ps.length → X ⟨"BadRow", [("length", .int row.length)]⟩)⟩
theorem log_nat {m : Nat} (h : m ≤ line) : ((m : Int)).natAbs.log2 < 1900 := by
  rw [Int.natAbs_natCast]
  by_cases h0 : m = 0
  · subst h0
    decide
  · refine (Nat.log2_lt h0).mpr (Nat.lt_of_le_of_lt h ?_)
    exact Nat.lt_of_lt_of_le (show line < 2 ^ 25 by decide) (Nat.pow_le_pow_right (by decide) (by decide))
theorem p_check_row (hf : ClsG Γ) (he : exOne "BadRow" "length" Γ) : ∀ ds Q X, checkRX.sp ds Q X → dDef Γ [.sh, .bo] 0 b_check_row ds Q X := by
  rintro ds Q X ⟨n, ps, row, rfl, hs, q1, q2⟩
  obtain ⟨fx, e1, e2⟩ := he
  conv => whnf
  rw [hf.it]
  conv => whnf
  by_cases h : row.length = ps.length
  · refine ite_f (c := (!decide ((row.length : Int) = ((ps.map pairD).length : Nat))) = true) (by simp [h]) ?_
    exact ⟨_, rfl, q1 h⟩
  · refine ite_t (c := (!decide ((row.length : Int) = ((ps.map pairD).length : Nat))) = true) (by simp only [List.length_map, Bool.not_eq_true', decide_eq_false_iff_not]; omega) ?_
    refine ⟨by show 1 ≤ 1000; decide, ?_⟩
    refine w1_at e1 ?_
    exact w1_at (e2 _ (log_nat hs)) (q2 h)
/-! ### what comes in less what goes out -/
def dl (p : Int × Int) (a : Int) (v : Nat) : Int := (if p.2 = v then a else 0) - (if p.1 = v then a else 0)
def nk (ps : List (Int × Int)) (row : List Int) : Nat → Nat → Int
  | 0, _ => 0
  | k + 1, v => nk ps row k v + match ps[k]?, row[k]? with
    | some p, some a => dl p a v
    | _, _ => 0
def netL (n : Nat) (f : Nat → Int) : List D := (List.range n).map fun v => .int (f v)
theorem netL_len {n : Nat} {f : Nat → Int} : (netL n f).length = n := by
  unfold netL
  rw [List.length_map, List.length_range]
theorem netL_get {n i : Nat} {f : Nat → Int} (h : i < n) : (netL n f)[i]? = some (.int (f i)) := by
  unfold netL
  rw [List.getElem?_map, List.getElem?_range h] <;> rfl
theorem netL_set {n i : Nat} {f : Nat → Int} {z : Int} (h : i < n) : (netL n f).set i (.int z) = netL n fun v => if v = i then z else f v := by
  refine List.ext_getElem? fun j => ?_
  by_cases hj : j < n
  · rw [netL_get hj]
    by_cases e : j = i
    · subst e
      rw [List.getElem?_set_self (by rw [netL_len]; exact h), if_pos rfl]
    · rw [List.getElem?_set_ne (Ne.symm e), netL_get hj, if_neg e]
  · rw [List.getElem?_eq_none (by rw [List.length_set, netL_len]; omega), List.getElem?_eq_none (by rw [netL_len]; omega)]
theorem netL_zero (n : Nat) : (List.replicate n [D.int 0]).flatten = netL n fun _ => 0 := by
  refine List.ext_getElem? fun j => ?_
  have h1 : ∀ m : Nat, (List.replicate m [D.int 0]).flatten = List.replicate m (D.int 0) := fun m => by
    induction m with
    | zero => rfl
    | succ m ih => rw [List.replicate_succ, List.flatten_cons, ih] <;> rfl
  rw [h1, List.getElem?_replicate]
  by_cases h : j < n
  · rw [if_pos h, netL_get h]
  · rw [if_neg h, List.getElem?_eq_none (by rw [netL_len]; omega)]
theorem ixN_at {m : Nat} {v : Int} (h0 : 0 ≤ v) (h1 : v < m) : L2.ixN m v = some v.toNat := by
  unfold L2.ixN
  rw [if_pos h0, if_pos h1]
theorem netL_congr {n : Nat} {f g : Nat → Int} (h : ∀ v, v < n → f v = g v) : netL n f = netL n g := by
  unfold netL
  refine List.map_congr_left fun v hv => ?_
  rw [h v (List.mem_range.mp hv)]
theorem nk_step {ps : List (Int × Int)} {row : List Int} {k : Nat} {p : Int × Int} {a : Int} (hp : ps[k]? = some p) (ha : row[k]? = some a) (v : Nat) : nk ps row (k + 1) v = nk ps row k v + dl p a v := by
  show nk ps row k v + (match ps[k]?, row[k]? with
    | some p, some a => dl p a v
    | _, _ => 0) = _
  rw [hp, ha]
def imbsF : Fn := ⟨[.sh, .bo], fun ds Q _ => ∃ (n : Nat) (ps : List (Int × Int)) (row : List Int), ds = [graphD n ps, .lst (row.map D.int)] ∧ okG n ps ∧ row.length = ps.length ∧ n < line ∧ ps.length < line ∧ Q (.fr (netL n (nk ps row ps.length))) []⟩
theorem p_imbalances (hf : ClsG Γ) (hv : Γ.p "Graph" "vertices" = some verticesF) : ∀ ds Q X, imbsF.sp ds Q X → dDef Γ [.sh, .bo] 4 b_imbalances ds Q X := by
  rintro ds Q X ⟨n, ps, row, rfl, ok, hl, hn, hp, q⟩
  have hb : line < 2 ^ 62 := by decide
  refine ⟨by decide, ?_⟩
  conv => whnf
  rw [hv]
  refine ⟨List.nodup_nil, fun _ h => (by cases h), n, ps, rfl, ?_⟩
  refine ⟨⟨by omega, by omega⟩, by simp; omega, ?_⟩
  refine ⟨rfl, ?_⟩
  rw [Int.toNat_natCast, netL_zero]
  refine ⟨rfl, ?_⟩
  conv => whnf
  rw [hf.it]
  conv => whnf
  refine ⟨fun k ρ => ∃ s3 s4 s5, ρ = [.sh (graphD n ps), .bo (row.map D.int), .ow (netL n (nk ps row k)), s3, s4, s5] ∧ isIo (some s3) = false ∧ isIo (some s4) = false ∧ isIo (some s5) = false, ⟨_, _, _, rfl, rfl, rfl, rfl⟩, ?_, ?_⟩
  · rintro k ρ d hd ⟨s3, s4, s5, rfl, h3, h4, h5⟩
    obtain ⟨x, hx, rfl⟩ := getE hd
    rw [List.getElem?_map] at hx
    obtain ⟨p, hp', rfl⟩ := Option.map_eq_some_iff.mp hx
    have hk := (List.getElem?_eq_some_iff.mp hp').1
    have o := ok p (List.mem_of_getElem? hp')
    obtain ⟨a, ha⟩ : ∃ a, row[k]? = some a := ⟨row[k]'(by omega), List.getElem?_eq_getElem (by omega)⟩
    refine ⟨h3, h4, h5, rfl, rfl, ?_⟩
    have g1 : p.1.toNat < n := by omega
    have g2 : p.2.toNat < n := by omega
    have ra : dIx (.lst (row.map D.int)) (.int (k : Int)) = some (.int a) := lst_at (by rw [List.getElem?_map, ha]; rfl)
    conv => whnf
    rw [show L2.ixN _ _ = _ from ixN_at (m := (netL n (nk ps row k)).length) (v := p.1) o.1 (by rw [netL_len]; exact o.2.1)]
    conv => whnf
    rw [show (netL n (nk ps row k))[_]? = _ from netL_get g1]
    refine w1_at ra ?_
    refine ⟨rfl, ?_⟩
    conv => whnf
    rw [netL_set g1]
    rw [show L2.ixN _ _ = _ from ixN_at (m := (netL n _).length) (v := p.2) o.2.2.1 (by rw [netL_len]; exact o.2.2.2)]
    conv => whnf
    rw [show (netL n _)[_]? = _ from netL_get g2]
    refine w1_at ra ?_
    refine ⟨rfl, ?_⟩
    conv => whnf
    rw [netL_set g2]
    refine ⟨.sh (.int (k : Int)), .sh (.int p.1), .sh (.int p.2), ?_, rfl, rfl, rfl⟩
    have : (fun v => if v = p.2.toNat then (if p.2.toNat = p.1.toNat then nk ps row k p.1.toNat - a else nk ps row k p.2.toNat) + a else if v = p.1.toNat then nk ps row k p.1.toNat - a else nk ps row k v) = nk ps row (k + 1) := by
      funext v
      rw [nk_step hp' ha]
      unfold dl
      have e1 : (p.2 = (v : Int)) ↔ v = p.2.toNat := by omega
      have e2 : (p.1 = (v : Int)) ↔ v = p.1.toNat := by omega
      simp only [e1, e2]
      by_cases h1 : v = p.2.toNat
      · subst h1
        by_cases h2 : p.2.toNat = p.1.toNat
        · simp only [h2, if_true]
          omega
        · simp only [h2, if_true, if_false]
          omega
      · by_cases h2 : v = p.1.toNat
        · subst h2
          simp only [h1, if_true, if_false]
          omega
        · simp only [h1, h2, if_false]
          omega
    rw [← this]
    rfl
  · rintro ρ ⟨s3, s4, s5, rfl, _, _, _⟩
    rw [enumD_len, List.length_map]
    exact ⟨_, _, rfl, rfl, q⟩
structure ImbG (Γ : Tb) : Prop where
  v : Γ.p "Graph" "vertices" = some verticesF
  r : Γ.f "check_row" = some checkRX
  c : Γ.f "check_vertex" = some checkVX
  i : Γ.f "imbalances" = some imbsF
  m : exOne "BadModulus" "modulus" Γ
def imbX : Fn := ⟨[.sh, .bo, .sh], fun ds Q X => ∃ (n : Nat) (ps : List (Int × Int)) (row : List Int) (v : Int), ds = [graphD n ps, .lst (row.map D.int), .int v] ∧ okG n ps ∧ n < line ∧ ps.length < line ∧ row.length ≤ line ∧ v.natAbs.log2 < 1900 ∧
  (row.length ≠ ps.length → X ⟨"BadRow", [("length", .int row.length)]⟩) ∧ (row.length = ps.length → ¬ okV n v → X ⟨"UnknownVertex", [("vertex", .int v)]⟩) ∧ (row.length = ps.length → okV n v → Q (.sh (.int (nk ps row ps.length v.toNat))) [])⟩
theorem p_imbalance (h : ImbG Γ) : ∀ ds Q X, imbX.sp ds Q X → dDef Γ [.sh, .bo, .sh] 0 b_imbalance ds Q X := by
  rintro ds Q X ⟨n, ps, row, v, rfl, ok, hn, hp, hl, hs, q1, q2, q3⟩
  conv => whnf
  rw [h.r]
  refine ⟨List.nodup_nil, fun _ h => (by cases h), n, ps, row.map D.int, rfl, by rw [List.length_map]; exact hl, fun e => ?_, fun e => ⟨rfl, ?_⟩⟩
  · rw [List.length_map] at e
    conv => whnf
    rw [h.c]
    refine ⟨List.nodup_nil, fun _ h => (by cases h), n, ps, v, rfl, hs, fun e2 => ?_, fun e2 => ⟨rfl, q2 e e2⟩⟩
    conv => whnf
    rw [h.i]
    refine ⟨List.nodup_nil, fun _ h => (by cases h), n, ps, row, rfl, ok, e, hn, hp, ?_⟩
    have hv : dIx (.lst (netL n (nk ps row ps.length))) (.int v) = some (.int (nk ps row ps.length v.toNat)) := by
      obtain ⟨i, rfl⟩ := Int.eq_ofNat_of_zero_le e2.1
      exact lst_at (netL_get (by have := e2.2; omega))
    refine w1_at hv ?_
    exact ⟨_, _, rfl, rfl, q3 e e2⟩
  · rw [List.length_map] at e ⊢
    exact q1 e
theorem eqv_ints : ∀ (xs ys : List Int), PyData.eqvAll ((xs.map D.int).map D.py) ((ys.map D.int).map D.py) = decide (xs = ys)
  | [], [] => rfl
  | [], _ :: _ => rfl
  | _ :: _, [] => rfl
  | x :: xs, y :: ys => by
    simp only [List.map_cons, PyData.eqvAll, eqv_ints xs ys, D.py, PyData.eqv]
    by_cases h : x = y <;> simp [h]
theorem pl_ints (k : Nat) (xs : List Int) : D.pl (k + 1) (.lst (xs.map D.int)) = true := by
  show (xs.map D.int).all (D.pl k) = true
  rw [List.all_eq_true]
  intro d hd
  obtain ⟨x, _, rfl⟩ := List.mem_map.mp hd
  cases k <;> rfl
theorem dEq_ints (xs ys : List Int) : dEq (.lst (xs.map D.int)) (.lst (ys.map D.int)) = some (decide (xs = ys)) := by
  show (if D.pl 20 (.lst (xs.map D.int)) && D.pl 20 (.lst (ys.map D.int)) then some (PyData.eqv (D.lst (xs.map D.int)).py (D.lst (ys.map D.int)).py) else none) = _
  rw [pl_ints 19, pl_ints 19, py_lst, py_lst]
  show some (PyData.eqvAll ((xs.map D.int).map D.py) ((ys.map D.int).map D.py)) = _
  rw [eqv_ints]
theorem netL_map (n : Nat) (f : Nat → Int) : netL n f = ((List.range n).map f).map D.int := by
  unfold netL
  rw [List.map_map] <;> rfl
def balB (n : Nat) (f : Nat → Int) (m : Int) : Bool := decide ((List.range n).map (fun v => f v % m) = (List.range n).map fun _ => (0 : Int))
theorem dEq_net (n : Nat) (f g : Nat → Int) : dEq (.lst (netL n f)) (.lst (netL n g)) = some (decide ((List.range n).map f = (List.range n).map g)) := by
  rw [netL_map, netL_map, dEq_ints]
def balX : Fn := ⟨[.sh, .bo, .sh], fun ds Q X => ∃ (n : Nat) (ps : List (Int × Int)) (row : List Int) (m : Int), ds = [graphD n ps, .lst (row.map D.int), .int m] ∧ okG n ps ∧ n < line ∧ ps.length < line ∧ row.length ≤ line ∧ m.natAbs.log2 < 1900 ∧
  (row.length ≠ ps.length → X ⟨"BadRow", [("length", .int row.length)]⟩) ∧ (row.length = ps.length → m < 0 → X ⟨"BadModulus", [("modulus", .int m)]⟩) ∧ (row.length = ps.length → 0 ≤ m → Q (.sh (.bl (balB n (nk ps row ps.length) m))) [])⟩
theorem p_is_balanced (h : ImbG Γ) : ∀ ds Q X, balX.sp ds Q X → dDef Γ [.sh, .bo, .sh] 1 b_is_balanced ds Q X := by
  rintro ds Q X ⟨n, ps, row, m, rfl, ok, hn, hp, hl, hs, q1, q2, q3⟩
  have hb : line < 2 ^ 62 := by decide
  obtain ⟨fx, e1, e2⟩ := h.m
  conv => whnf
  rw [h.r]
  refine ⟨List.nodup_nil, fun _ h => (by cases h), n, ps, row.map D.int, rfl, by rw [List.length_map]; exact hl, fun e => ?_, fun e => ⟨rfl, ?_⟩⟩
  · rw [List.length_map] at e
    by_cases hm : m < 0
    · refine ite_t (decide_eq_true hm) ?_
      refine ⟨by show 1 ≤ 1000; decide, ?_⟩
      refine w1_at e1 ?_
      exact w1_at (e2 m hs) (q2 e hm)
    · refine ite_f (c := decide (m < 0) = true) (by simp [hm]) ?_
      by_cases h0 : m = 0
      · subst h0
        conv => whnf
        rw [h.i]
        refine ⟨List.nodup_nil, fun _ h => (by cases h), n, ps, row, rfl, ok, e, hn, hp, ?_⟩
        refine ⟨by decide, ?_⟩
        conv => whnf
        rw [h.v]
        refine ⟨List.nodup_nil, fun _ h => (by cases h), n, ps, rfl, ?_⟩
        refine ⟨⟨by omega, by omega⟩, by simp; omega, ?_⟩
        rw [Int.toNat_natCast, netL_zero]
        refine w1_at rfl ?_
        refine w1_at rfl ?_
        refine w1_at (dEq_net n _ _) ?_
        refine ⟨_, _, rfl, rfl, ?_⟩
        have := q3 e (Int.le_refl 0)
        unfold balB at this
        simp only [Int.emod_zero] at this
        exact this
      · refine ite_f (c := decide (m = 0) = true) (by simp [h0]) ?_
        have hm' : 0 < m := by omega
        conv => whnf
        rw [h.i]
        refine ⟨List.nodup_nil, fun _ h => (by cases h), n, ps, row, rfl, ok, e, hn, hp, ?_⟩
        refine ⟨rfl, fun k acc ρ => ρ = [.sh (graphD n ps), .bo (row.map D.int), .sh (.int m), .top] ∧ acc = (netL n fun v => nk ps row ps.length v % m).take k, ⟨rfl, rfl⟩, ?_, ?_⟩
        · rintro k acc ρ d hd ⟨rfl, rfl⟩
          have hk : k < n := by
            have := (List.getElem?_eq_some_iff.mp hd).1
            rw [netL_len] at this
            exact this
          rw [netL_get hk] at hd
          cases hd
          refine ⟨rfl, ?_⟩
          refine ⟨hm', ?_⟩
          refine ⟨by rw [List.length_take, netL_len]; omega, rfl, ?_⟩
          rw [List.take_succ, netL_get hk] <;> rfl
        · rintro acc ρ ⟨rfl, rfl⟩
          rw [netL_len, List.take_of_length_le (by rw [netL_len]; exact Nat.le_refl _)]
          refine ⟨by decide, ?_⟩
          conv => whnf
          rw [h.v]
          refine ⟨List.nodup_nil, fun _ h => (by cases h), n, ps, rfl, ?_⟩
          refine ⟨⟨by omega, by omega⟩, by simp; omega, ?_⟩
          rw [Int.toNat_natCast, netL_zero]
          refine w1_at rfl ?_
          refine w1_at rfl ?_
          refine w1_at (dEq_net n _ _) ?_
          exact ⟨_, _, rfl, rfl, q3 e (by omega)⟩
  · rw [List.length_map] at e ⊢
    exact q1 e
end
end M
set_option linter.all false
set_option Elab.async false
set_option maxRecDepth 10000
set_option maxHeartbeats 4000000
/-! K11Q: the law's own defs: shuffled, rests, great. -/
namespace M
open PySem PySem.Spec PyProof.Rows L2 C8
section
variable {Γ : Tb}
theorem rngD_nat (m : Nat) : rngD 0 (m : Int) = (List.range m).map natD := by
  unfold rngD
  rw [show ((m : Int) - 0).toNat = m from by omega]
  refine List.map_congr_left fun i _ => ?_
  show D.int (0 + (i : Int)) = D.int (i : Int)
  rw [Int.zero_add]
def shufF : Fn := ⟨[.io, .sh], fun ds Q _ => ∃ (xs : List Int) (p m : Nat), ds = [stD xs p, .int m] ∧ 0 < xs.length ∧ xs.length < line ∧ small xs ∧ p + m < 1000000 ∧ ∀ row : List Nat, row.Perm (List.range m) → Q (.fr (row.map natD)) [stL xs (p + m)]⟩
theorem p_shuffled (hn : Γ.f "_law_next" = some nextF) : ∀ ds Q X, shufF.sp ds Q X → dDef Γ [.io, .sh] 4 b_law_shuffled ds Q X := by
  rintro ds Q X ⟨xs, p, m, rfl, h0, hl, hs, hp, q⟩
  have hb : 1000000 < line := by decide
  have hb2 : line < 2 ^ 62 := by decide
  refine ⟨⟨by omega, by omega⟩, by omega, ?_⟩
  refine ⟨rfl, ?_⟩
  rw [rngD_nat]
  conv => whnf
  refine ⟨⟨by omega, by omega⟩, ?_⟩
  refine ⟨fun k ρ => ∃ (row : List Nat) (s3 s4 s5 : Sl), row.Perm (List.range m) ∧ ρ = [.io (stL xs (p + k)), .sh (.int m), .ow (row.map natD), s3, s4, s5] ∧ isIo (some s3) = false ∧ isIo (some s4) = false ∧ isIo (some s5) = false, ⟨List.range m, .top, .top, .top, List.Perm.refl _, rfl, rfl, rfl, rfl⟩, ?_, ?_⟩
  · rintro k ρ d hd ⟨row, s3, s4, s5, pr, rfl, e3, e4, e5⟩
    obtain ⟨hk, rfl⟩ := getR hd
    have hk : k < m := by omega
    have len : row.length = m := by
      rw [pr.length_eq, List.length_range]
    rw [Int.zero_add]
    refine ⟨e3, ?_⟩
    conv => whnf
    rw [hn]
    refine ⟨(show ([0] : List Nat).Nodup by decide), fun i h1 h2 => (by cases h2), xs, p + k, k + 1, rfl, by omega, h0, hl, hs, by omega, fun r hr => ?_⟩
    refine ⟨e4, ?_⟩
    have g1 : row[k]? = some (row[k]'(by omega)) := List.getElem?_eq_getElem (by omega)
    have g2 : row[r]? = some (row[r]'(by omega)) := List.getElem?_eq_getElem (by omega)
    have i1 : dIx (.lst (row.map natD)) (.int (k : Int)) = some (natD (row[k]'(by omega))) := lst_at (by rw [List.getElem?_map, g1]; rfl)
    have i2 : dIx (.lst (row.map natD)) (.int (r : Int)) = some (natD (row[r]'(by omega))) := lst_at (by rw [List.getElem?_map, g2]; rfl)
    refine w1_at i1 ?_
    refine ⟨e5, ?_⟩
    refine w1_at i2 ?_
    refine w1_at (ixN_at (m := (row.map natD).length) (v := (k : Int)) (by omega) (by rw [List.length_map]; omega)) ?_
    refine w1_at (ixN_at (m := ((row.map natD).set k (natD (row[r]'(by omega)))).length) (v := (r : Int)) (by omega) (by rw [List.length_set, List.length_map]; omega)) ?_
    refine ⟨(row.set k (row[r]'(by omega))).set r (row[k]'(by omega)), .sh (.int (k : Int)), .sh (.int (r : Int)), .sh (natD (row[k]'(by omega))), (List.set_set_perm (by omega) (by omega)).trans pr, ?_, rfl, rfl, rfl⟩
    rw [List.map_set, List.map_set]
    rfl
  · rintro ρ ⟨row, s3, s4, s5, pr, rfl, _, _, _⟩
    have e := rngD_len (lo := 0) (hi := (m : Int))
    exact ⟨_, _, rfl, rfl, by rw [show p + (rngD 0 (m : Int)).length = p + m by omega]; exact q row pr⟩
theorem net_at {n : Nat} {f : Nat → Int} {v : Int} (h0 : 0 ≤ v) (h1 : v < n) : dIx (.lst (netL n f)) (.int v) = some (.int (f v.toNat)) := by
  obtain ⟨i, rfl⟩ := Int.eq_ofNat_of_zero_le h0
  exact lst_at (netL_get (by omega))
theorem netL_snoc (k : Nat) : netL k (fun _ => 0) ++ [D.int 0] = netL (k + 1) fun _ => 0 := by
  unfold netL
  rw [List.range_succ, List.map_append] <;> rfl
def restsF : Fn := ⟨[.sh, .bo, .bo], fun ds Q _ => ∃ (n : Nat) (ps : List (Int × Int)) (row : List Int), ds = [.int n, .lst (ps.map pairD), .lst (row.map D.int)] ∧ okG n ps ∧ row.length = ps.length ∧ n < line ∧ ps.length < line ∧ Q (.fr (netL n (nk ps row ps.length))) []⟩
theorem p_rests : ∀ ds Q X, restsF.sp ds Q X → dDef Γ [.sh, .bo, .bo] 3 b_law_rests ds Q X := by
  rintro ds Q X ⟨n, ps, row, rfl, ok, hl, hn, hp, q⟩
  have hb : line < 2 ^ 62 := by decide
  refine ⟨⟨by omega, by omega⟩, rfl, fun k acc ρ => ρ = [.sh (.int n), .bo (ps.map pairD), .bo (row.map D.int), .top, .top, .top] ∧ acc = netL k (fun _ => 0), ⟨rfl, rfl⟩, ?_, ?_⟩
  · rintro k acc ρ d hd ⟨rfl, rfl⟩
    obtain ⟨hk, rfl⟩ := getR hd
    exact ⟨rfl, by rw [netL_len]; omega, rfl, netL_snoc k⟩
  · rintro acc ρ ⟨rfl, rfl⟩
    rw [rngD_len]
    rw [show ((n : Int) - 0).toNat = n from by omega]
    refine ⟨rfl, ?_⟩
    conv => whnf
    refine ⟨⟨by rw [List.length_map]; omega, by rw [List.length_map]; omega⟩, ?_⟩
    refine ⟨fun k ρ => ∃ s5 : Sl, ρ = [.sh (.int n), .bo (ps.map pairD), .bo (row.map D.int), .ow (netL n (nk ps row k)), .top, s5] ∧ isIo (some s5) = false, ⟨_, rfl, rfl⟩, ?_, ?_⟩
    · rintro k ρ d hd ⟨s5, rfl, h5⟩
      obtain ⟨hk, rfl⟩ := getR hd
      rw [List.length_map] at hk
      have hk : k < ps.length := by omega
      obtain ⟨p, hp'⟩ : ∃ p, ps[k]? = some p := ⟨ps[k], List.getElem?_eq_getElem hk⟩
      obtain ⟨a, ha⟩ : ∃ a, row[k]? = some a := ⟨row[k]'(by omega), List.getElem?_eq_getElem (by omega)⟩
      have o := ok p (List.mem_of_getElem? hp')
      have g1 : p.1.toNat < n := by omega
      have g2 : p.2.toNat < n := by omega
      rw [Int.zero_add]
      refine ⟨h5, ?_⟩
      have pa : dIx (.lst (ps.map pairD)) (.int (k : Int)) = some (pairD p) := lst_at (by rw [List.getElem?_map, hp']; rfl)
      have ra : dIx (.lst (row.map D.int)) (.int (k : Int)) = some (.int a) := lst_at (by rw [List.getElem?_map, ha]; rfl)
      refine w1_at pa ?_
      refine w1_at (net_at o.2.2.1 o.2.2.2) ?_
      refine w1_at ra ?_
      refine w1_at rfl ?_
      refine w1_at rfl ?_
      refine w1_at pa ?_
      refine w1_at (ixN_at (m := (netL n (nk ps row k)).length) (v := p.2) o.2.2.1 (by rw [netL_len]; exact o.2.2.2)) ?_
      refine w1_at pa ?_
      refine w1_at (x := .int (if p.1.toNat = p.2.toNat then nk ps row k p.2.toNat + a else nk ps row k p.1.toNat)) (by rw [netL_set g2]; exact net_at o.1 o.2.1) ?_
      refine w1_at ra ?_
      refine w1_at rfl ?_
      refine w1_at rfl ?_
      refine w1_at pa ?_
      refine w1_at (ixN_at (m := ((netL n (nk ps row k)).set p.2.toNat (.int (nk ps row k p.2.toNat + a))).length) (v := p.1) o.1 (by rw [List.length_set, netL_len]; exact o.2.1)) ?_
      refine ⟨.sh (.int (k : Int)), ?_, rfl⟩
      have : nk ps row (k + 1) = (fun v => if v = p.1.toNat then (if p.1.toNat = p.2.toNat then nk ps row k p.2.toNat + a else nk ps row k p.1.toNat) - a else if v = p.2.toNat then nk ps row k p.2.toNat + a else nk ps row k v) := by
        funext v
        rw [nk_step hp' ha]
        unfold dl
        have e1 : (p.2 = (v : Int)) ↔ v = p.2.toNat := by omega
        have e2 : (p.1 = (v : Int)) ↔ v = p.1.toNat := by omega
        simp only [e1, e2]
        by_cases h1 : v = p.1.toNat
        · subst h1
          by_cases h2 : p.1.toNat = p.2.toNat
          · simp only [h2, if_true]
            omega
          · simp only [h2, if_true, if_false]
            omega
        · by_cases h2 : v = p.2.toNat
          · subst h2
            simp only [h1, if_true, if_false]
            omega
          · simp only [h1, h2, if_false]
            omega
      rw [this, ← netL_set g1, ← netL_set g2]
      rfl
    · rintro ρ ⟨s5, rfl, _⟩
      refine ⟨_, _, rfl, rfl, ?_⟩
      rw [rngD_len, List.length_map, show ((ps.length : Int) - 0).toNat = ps.length from by omega]
      exact q
/-! ### a great number -/
def greatF : Fn := ⟨[.io], fun ds Q _ => ∃ (xs : List Int) (p : Nat), ds = [stD xs p] ∧ 0 < xs.length ∧ xs.length < line ∧ small xs ∧ p + 20 < 1000000 ∧ ∀ (g : Int) (p' : Nat), g.natAbs < 2 ^ 120 → p' ≤ p + 20 → Q (.sh (.int g)) [stL xs p']⟩
theorem p_great (hn : Γ.f "_law_next" = some nextF) : ∀ ds Q X, greatF.sp ds Q X → dDef Γ [.io] 2 b_law_great ds Q X := by
  rintro ds Q X ⟨xs, p, rfl, h0, hl, hs, hp, q⟩
  refine ⟨rfl, ?_⟩
  conv => whnf
  rw [hn]
  refine ⟨(show ([0] : List Nat).Nodup by decide), fun i h1 h2 => (by cases h2), xs, p, 10, rfl, by omega, h0, hl, hs, by omega, fun r hr => ?_⟩
  refine ⟨⟨by omega, by omega⟩, ?_⟩
  refine ⟨fun k ρ => ∃ (g : Nat) (s2 : Sl), ρ = [.io (stL xs (p + 1 + k)), .sh (.int (g : Int)), s2] ∧ isIo (some s2) = false ∧ g < 1000 ^ k, ⟨0, .top, rfl, rfl, by decide⟩, ?_, ?_⟩
  · rintro k ρ d hd ⟨g, s2, rfl, h2, hg⟩
    obtain ⟨hk, rfl⟩ := getR hd
    have hk : k ≤ 10 := by omega
    refine ⟨h2, ?_⟩
    have hg2 : g < 2 ^ 110 := Nat.lt_of_lt_of_le hg (Nat.le_trans (Nat.pow_le_pow_right (by decide) hk) (by decide))
    have lg : ((g : Int)).natAbs.log2 < 110 := log_lt (by rw [Int.natAbs_natCast]; exact hg2) (by decide)
    have lt : ((1000 : Int)).natAbs.log2 < 10 := by decide +kernel
    refine ⟨show (g : Int).natAbs.log2 + (1000 : Int).natAbs.log2 < 1000000 by omega, ?_⟩
    conv => whnf
    rw [hn]
    refine ⟨(show ([0] : List Nat).Nodup by decide), fun i h1 h2 => (by cases h2), xs, p + 1 + k, 1000, rfl, by omega, h0, hl, hs, by omega, fun a ha => ?_⟩
    refine ⟨rfl, g * 1000 + a, .sh (.int (0 + (k : Int))), ?_, rfl, ?_⟩
    · rw [show ((g * 1000 + a : Nat) : Int) = (g : Int) * 1000 + (a : Int) from by push_cast; rfl]
      rfl
    · rw [Nat.pow_succ]
      omega
  · rintro ρ ⟨g, s2, rfl, h2, hg⟩
    have e := rngD_len (lo := 0) (hi := (1 + (r : Int)))
    have hg2 : g < 2 ^ 110 := Nat.lt_of_lt_of_le hg (Nat.le_trans (Nat.pow_le_pow_right (n := 1000) (by decide) (show (rngD 0 (1 + (r : Int))).length ≤ 10 by omega)) (by decide))
    conv => whnf
    rw [hn]
    refine ⟨(show ([0] : List Nat).Nodup by decide), fun i h1 h2 => (by cases h2), xs, _, 2, rfl, by omega, h0, hl, hs, by omega, fun a ha => ?_⟩
    have pw : (2 : Nat) ^ 110 < 2 ^ 120 := by decide
    by_cases h : (a : Int) = 0
    · refine ite_t (c := decide ((a : Int) = 0) = true) (decide_eq_true h) ?_
      exact ⟨_, _, rfl, rfl, q _ _ (by rw [Int.natAbs_natCast]; omega) (by omega)⟩
    · refine ite_f (c := decide ((a : Int) = 0) = true) (by rw [decide_eq_true_eq]; exact h) ?_
      exact ⟨_, _, rfl, rfl, q _ _ (by omega) (by omega)⟩
end
end M
set_option linter.all false
set_option Elab.async false
set_option maxRecDepth 10000
set_option maxHeartbeats 4000000
/-! K11R: the law's flows. -/
namespace M
open PySem PySem.Spec PyProof.Rows L2 C8
def fl1 : Ss :=
  (.cons (.asg (.nm 7) (.ife (.cmp .gt (.bi .len (.cons (.var 2) .nil)) (.int 0)) (.call "_law_next" (.cons (.var 0) (.cons (.bi .len (.cons (.var 2) .nil)) .nil))) (.neg (.int 1))))
  (.cons (.asg (.nm 8) (.lc (.ife (.and (.cons (.cmp .ge (.var 7) (.int 0)) (.cons (.cmp .eq (.var 9) (.ix (.ix (.var 2) (.var 7)) (.int 1))) .nil))) (.lst .nil) .non) (.nm 9) (.rng (.cons (.var 1) .nil)) .nil [("vertex", 9)]))
  (.cons (.asg (.nm 10) (.call "_law_shuffled" (.cons (.var 0) (.cons (.bi .len (.cons (.var 2) .nil)) .nil))))
  (.cons (.forr (.nm 11) (.rng (.cons (.var 1) .nil))
   (.cons (.forr (.nm 12) (.ex (.var 10))
     (.cons (.forr (.tp (.nm 13) (.tp (.nm 14) (.tp (.nm 15) .tz))) (.ex (.lst (.cons (.tup (.cons (.ix (.ix (.var 2) (.var 12)) (.int 0)) (.cons (.ix (.ix (.var 2) (.var 12)) (.int 1)) (.cons (.int 1) .nil)))) (.cons (.tup (.cons (.ix (.ix (.var 2) (.var 12)) (.int 1)) (.cons (.ix (.ix (.var 2) (.var 12)) (.int 0)) (.cons (.neg (.int 1)) .nil)))) .nil))))
       (.cons (.iff (.and (.cons (.cmp .ne (.var 12) (.var 7)) (.cons (.cmp .isnot (.ix (.var 8) (.var 13)) .non) (.cons (.cmp .is (.ix (.var 8) (.var 14)) .non) .nil))))
         (.cons (.set (.var 8) (.var 14) (.bin .add (.ix (.var 8) (.var 13)) (.lst (.cons (.tup (.cons (.var 12) (.cons (.var 15) .nil))) .nil))))
          .nil)
         .nil)
        .nil))
      .nil))
    .nil))
  (.cons (.asg (.nm 16) (.ife (.cmp .eq (.call "_law_next" (.cons (.var 0) (.cons (.int 2) .nil))) (.int 0)) (.bin .add (.int 1) (.call "_law_next" (.cons (.var 0) (.cons (.var 3) .nil)))) (.bin .sub (.neg (.int 1)) (.call "_law_next" (.cons (.var 0) (.cons (.var 3) .nil))))))
  (.cons (.iff (.and (.cons (.cmp .ge (.var 7) (.int 0)) (.cons (.cmp .isnot (.ix (.var 8) (.ix (.ix (.var 2) (.var 7)) (.int 0))) .non) .nil)))
   (.cons (.forr (.tp (.nm 12) (.tp (.nm 15) .tz)) (.ex (.bin .add (.ix (.var 8) (.ix (.ix (.var 2) (.var 7)) (.int 0))) (.lst (.cons (.tup (.cons (.var 7) (.cons (.int 1) .nil))) .nil))))
     (.cons (.set (.var 4) (.var 12) (.bin .add (.ix (.var 4) (.var 12)) (.bin .mul (.var 15) (.var 16))))
      .nil))
    .nil)
   .nil)
  .nil))))))
def fl2 : Ss :=
  (.cons (.forr (.nm 12) (.ex (.var 10))
   (.cons (.forr (.tp (.nm 13) (.tp (.nm 14) (.tp (.nm 15) .tz))) (.ex (.lst (.cons (.tup (.cons (.ix (.ix (.var 2) (.var 12)) (.int 0)) (.cons (.ix (.ix (.var 2) (.var 12)) (.int 1)) (.cons (.int 1) .nil)))) (.cons (.tup (.cons (.ix (.ix (.var 2) (.var 12)) (.int 1)) (.cons (.ix (.ix (.var 2) (.var 12)) (.int 0)) (.cons (.neg (.int 1)) .nil)))) .nil))))
     (.cons (.iff (.and (.cons (.cmp .ne (.var 12) (.var 7)) (.cons (.cmp .isnot (.ix (.var 8) (.var 13)) .non) (.cons (.cmp .is (.ix (.var 8) (.var 14)) .non) .nil))))
       (.cons (.set (.var 8) (.var 14) (.bin .add (.ix (.var 8) (.var 13)) (.lst (.cons (.tup (.cons (.var 12) (.cons (.var 15) .nil))) .nil))))
        .nil)
       .nil)
      .nil))
    .nil))
  .nil)
def fl3 : Ss :=
  (.cons (.forr (.tp (.nm 13) (.tp (.nm 14) (.tp (.nm 15) .tz))) (.ex (.lst (.cons (.tup (.cons (.ix (.ix (.var 2) (.var 12)) (.int 0)) (.cons (.ix (.ix (.var 2) (.var 12)) (.int 1)) (.cons (.int 1) .nil)))) (.cons (.tup (.cons (.ix (.ix (.var 2) (.var 12)) (.int 1)) (.cons (.ix (.ix (.var 2) (.var 12)) (.int 0)) (.cons (.neg (.int 1)) .nil)))) .nil))))
   (.cons (.iff (.and (.cons (.cmp .ne (.var 12) (.var 7)) (.cons (.cmp .isnot (.ix (.var 8) (.var 13)) .non) (.cons (.cmp .is (.ix (.var 8) (.var 14)) .non) .nil))))
     (.cons (.set (.var 8) (.var 14) (.bin .add (.ix (.var 8) (.var 13)) (.lst (.cons (.tup (.cons (.var 12) (.cons (.var 15) .nil))) .nil))))
      .nil)
     .nil)
    .nil))
  .nil)
def fl4 : Ss :=
  (.cons (.iff (.and (.cons (.cmp .ne (.var 12) (.var 7)) (.cons (.cmp .isnot (.ix (.var 8) (.var 13)) .non) (.cons (.cmp .is (.ix (.var 8) (.var 14)) .non) .nil))))
   (.cons (.set (.var 8) (.var 14) (.bin .add (.ix (.var 8) (.var 13)) (.lst (.cons (.tup (.cons (.var 12) (.cons (.var 15) .nil))) .nil))))
    .nil)
   .nil)
  .nil)
def fl5 : Ss :=
  (.cons (.forr (.tp (.nm 12) (.tp (.nm 15) .tz)) (.ex (.bin .add (.ix (.var 8) (.ix (.ix (.var 2) (.var 7)) (.int 0))) (.lst (.cons (.tup (.cons (.var 7) (.cons (.int 1) .nil))) .nil))))
   (.cons (.set (.var 4) (.var 12) (.bin .add (.ix (.var 4) (.var 12)) (.bin .mul (.var 15) (.var 16))))
    .nil))
  .nil)
def fl6 : Ss :=
  (.cons (.set (.var 4) (.var 12) (.bin .add (.ix (.var 4) (.var 12)) (.bin .mul (.var 15) (.var 16))))
  .nil)
def stepD (x : Nat × Int) : D := .tup [.int (x.1 : Int), .int x.2]
def okS (c : Nat) (l : List (Nat × Int)) : Prop := ∀ x ∈ l, x.1 < c ∧ (x.2 = 1 ∨ x.2 = -1)
def okC (c n L : Nat) (came : List D) : Prop := came.length = n ∧ ∀ d ∈ came, d = .non ∨ ∃ l, d = .lst (l.map stepD) ∧ l.length ≤ L ∧ okS c l
theorem okC.mono {c n L L' : Nat} {came : List D} (h : okC c n L came) (le : L ≤ L') : okC c n L' came := ⟨h.1, fun d hd => (h.2 d hd).imp id fun ⟨l, e, a, b⟩ => ⟨l, e, Nat.le_trans a le, b⟩⟩
abbrev fE (st row : List D) (n m e : Int) (ps : List (Int × Int)) (came : List D) (s6 s10 s11 s12 s13 s14 s15 s16 : Sl) : En := [.io st, .sh (.int n), .bo (ps.map pairD), .sh (.int m), .ow row, .top, s6, .sh (.int e), .ow came, .top, s10, s11, s12, s13, s14, s15, s16]
section
variable {Γ : Tb}
theorem came_at {c n L : Nat} {came : List D} (h : okC c n L came) {v : Int} (h0 : 0 ≤ v) (h1 : v < n) : ∃ d, dIx (.lst came) (.int v) = some d ∧ (d = .non ∨ ∃ l, d = .lst (l.map stepD) ∧ l.length ≤ L ∧ okS c l) := by
  obtain ⟨i, rfl⟩ := Int.eq_ofNat_of_zero_le h0
  have hi : i < came.length := by rw [h.1]; omega
  exact ⟨came[i], lst_at (List.getElem?_eq_getElem hi), h.2 _ (List.getElem_mem hi)⟩
/-- one way of one edge -/
theorem fl_one {st row : List D} {n L c o : Nat} {m e f l sg : Int} {ps : List (Int × Int)} {came : List D} {s6 s10 s11 s16 : Sl} {P : Po} (hL : L < 1000) (hc : okC c n L came) (ho : o < c) (hf : 0 ≤ f ∧ f < n) (hl : 0 ≤ l ∧ l < n) (hs : sg = 1 ∨ sg = -1)
    (nx : ∀ came', okC c n (L + 1) came' → P.nx (fE st row n m e ps came' s6 s10 s11 (.sh (.int (o : Int))) (.sh (.int f)) (.sh (.int l)) (.sh (.int sg)) s16)) :
    dSs Γ fl4 (fE st row n m e ps came s6 s10 s11 (.sh (.int (o : Int))) (.sh (.int f)) (.sh (.int l)) (.sh (.int sg)) s16) P := by
  have lb : 1000 < line := by decide
  have stay := nx came (hc.mono (Nat.le_succ L))
  by_cases h1 : (o : Int) = e
  · refine ite_f (c := (!decide ((o : Int) = e)) = true) (by simp [h1]) ?_
    exact stay
  · refine ite_t (c := (!decide ((o : Int) = e)) = true) (by simp [h1]) ?_
    obtain ⟨d1, e1, k1⟩ := came_at hc hf.1 hf.2
    obtain ⟨d2, e2, k2⟩ := came_at hc hl.1 hl.2
    refine w1_at e1 ?_
    rcases k1 with rfl | ⟨l1, rfl, a1, b1⟩
    · exact stay
    · refine w1_at e2 ?_
      rcases k2 with rfl | ⟨l2, rfl, _, _⟩
      · refine w1_at e1 ?_
        refine ⟨by show 2 ≤ line; decide, ?_⟩
        refine ⟨by show 1 ≤ line; decide, ?_⟩
        refine ⟨by show (l1.map stepD).length + 1 ≤ line; rw [List.length_map]; omega, ?_⟩
        refine w1_at (ixN_at (m := came.length) (v := l) hl.1 (by rw [hc.1]; exact hl.2)) ?_
        refine nx _ ⟨by rw [List.length_set]; exact hc.1, fun d hd => ?_⟩
        rcases List.mem_or_eq_of_mem_set hd with hd | rfl
        · exact (hc.mono (Nat.le_succ L)).2 d hd
        · refine .inr ⟨l1 ++ [(o, sg)], by rw [List.map_append]; rfl, by rw [List.length_append]; show l1.length + 1 ≤ L + 1; omega, fun x hx => ?_⟩
          rcases List.mem_append.mp hx with hx | hx
          · exact b1 x hx
          · rw [List.mem_singleton.mp hx]
            exact ⟨ho, hs⟩
      · exact stay
def NI (s : Sl) : Prop := isIo (some s) = false
/-- both ways of one edge -/
theorem fl_two {st row : List D} {n L o : Nat} {m e : Int} {ps : List (Int × Int)} {came : List D} {s6 s10 s11 s13 s14 s15 s16 : Sl} {P : Po} (hL : L + 2 < 1000) (ok : okG n ps) (hc : okC ps.length n L came) (ho : o < ps.length) (h13 : NI s13) (h14 : NI s14) (h15 : NI s15)
    (nx : ∀ came' s13 s14 s15, okC ps.length n (L + 2) came' → NI s13 → NI s14 → NI s15 → P.nx (fE st row n m e ps came' s6 s10 s11 (.sh (.int (o : Int))) s13 s14 s15 s16)) :
    dSs Γ fl3 (fE st row n m e ps came s6 s10 s11 (.sh (.int (o : Int))) s13 s14 s15 s16) P := by
  obtain ⟨p, hp⟩ : ∃ p, ps[o]? = some p := ⟨ps[o], List.getElem?_eq_getElem ho⟩
  have q := ok p (List.mem_of_getElem? hp)
  have pa : dIx (.lst (ps.map pairD)) (.int (o : Int)) = some (pairD p) := lst_at (by rw [List.getElem?_map, hp]; rfl)
  conv => whnf
  refine w1_at pa ?_
  conv => whnf
  refine w1_at pa ?_
  refine ⟨by show 3 ≤ line; decide, ?_⟩
  conv => whnf
  refine w1_at pa ?_
  conv => whnf
  refine w1_at pa ?_
  refine ⟨by show 3 ≤ line; decide, ?_⟩
  refine ⟨by show 2 ≤ line; decide, ?_⟩
  refine ⟨fun k ρ => ∃ came' s13 s14 s15, okC ps.length n (L + k) came' ∧ ρ = fE st row n m e ps came' s6 s10 s11 (.sh (.int (o : Int))) s13 s14 s15 s16 ∧ NI s13 ∧ NI s14 ∧ NI s15, ⟨came, s13, s14, s15, hc, rfl, h13, h14, h15⟩, ?_, ?_⟩
  · rintro k ρ d hd ⟨came', t13, t14, t15, hc', rfl, g13, g14, g15⟩
    rcases k with _ | _ | k
    · cases hd
      refine ⟨g13, g14, g15, rfl, ?_⟩
      exact fl_one (by omega) hc' ho ⟨q.1, q.2.1⟩ ⟨q.2.2.1, q.2.2.2⟩ (.inl rfl) fun c' hc' => ⟨c', _, _, _, hc', rfl, rfl, rfl, rfl⟩
    · cases hd
      refine ⟨g13, g14, g15, rfl, ?_⟩
      exact fl_one (by omega) hc' ho ⟨q.2.2.1, q.2.2.2⟩ ⟨q.1, q.2.1⟩ (.inr rfl) fun c' hc' => ⟨c', _, _, _, hc', rfl, rfl, rfl, rfl⟩
    · cases hd
  · rintro ρ ⟨came', t13, t14, t15, hc', rfl, g13, g14, g15⟩
    exact nx came' _ _ _ hc' g13 g14 g15
/-- all edges once -/
theorem fl_all {st row : List D} {n L : Nat} {m e : Int} {ps : List (Int × Int)} {came : List D} {ord : List Nat} {s6 s10 s11 s12 s13 s14 s15 s16 : Sl} {P : Po} (hL : L + 2 * ord.length < 1000) (ok : okG n ps) (hc : okC ps.length n L came) (ho : ∀ o ∈ ord, o < ps.length) (h10 : s10 = .ow (ord.map natD) ∨ s10 = .sh (.lst (ord.map natD)))
    (h12 : NI s12) (h13 : NI s13) (h14 : NI s14) (h15 : NI s15)
    (nx : ∀ came' s12 s13 s14 s15, okC ps.length n (L + 2 * ord.length) came' → NI s12 → NI s13 → NI s14 → NI s15 → P.nx (fE st row n m e ps came' s6 (.sh (.lst (ord.map natD))) s11 s12 s13 s14 s15 s16)) :
    dSs Γ fl2 (fE st row n m e ps came s6 s10 s11 s12 s13 s14 s15 s16) P := by
  have core : ∃ W : Nat → En → Prop, W 0 (fE st row n m e ps came s6 (.sh (.lst (ord.map natD))) s11 s12 s13 s14 s15 s16) ∧ (∀ k ρ' d, (ord.map natD)[k]? = some d → W k ρ' → dTg (.nm 12) d ρ' fun ρ2 => dSs Γ fl3 ρ2 ((P.sq fun ρ1 => dSs Γ .nil ρ1 P).lp (W (k + 1)) (P.sq fun ρ1 => dSs Γ .nil ρ1 P).nx)) ∧ ∀ ρ', W (ord.map natD).length ρ' → P.nx ρ' := by
    refine ⟨fun k ρ => ∃ came' s12 s13 s14 s15, okC ps.length n (L + 2 * k) came' ∧ ρ = fE st row n m e ps came' s6 (.sh (.lst (ord.map natD))) s11 s12 s13 s14 s15 s16 ∧ NI s12 ∧ NI s13 ∧ NI s14 ∧ NI s15, ⟨came, _, _, _, _, hc, rfl, h12, h13, h14, h15⟩, ?_, ?_⟩
    · rintro k ρ d hd ⟨came', t12, t13, t14, t15, hc', rfl, g12, g13, g14, g15⟩
      rw [List.getElem?_map] at hd
      obtain ⟨o, ho', rfl⟩ := Option.map_eq_some_iff.mp hd
      have hk := (List.getElem?_eq_some_iff.mp ho').1
      refine ⟨g12, ?_⟩
      exact fl_two (by omega) ok hc' (ho o (List.mem_of_getElem? ho')) g13 g14 g15 fun c' u13 u14 u15 hc2 k13 k14 k15 => ⟨c', _, _, _, _, by rw [Nat.mul_succ, ← Nat.add_assoc]; exact hc2, rfl, rfl, k13, k14, k15⟩
    · rintro ρ ⟨came', t12, t13, t14, t15, hc', rfl, g12, g13, g14, g15⟩
      rw [List.length_map] at hc'
      exact nx came' _ _ _ _ hc' g12 g13 g14 g15
  rcases h10 with rfl | rfl
  · exact core
  · exact core
/-- along the way found -/
theorem fl_put {st : List D} {row : List Int} {n B : Nat} {m e tm : Int} {ps : List (Int × Int)} {came : List D} {l : List (Nat × Int)} {s6 s10 s11 s12 s13 s14 s15 : Sl} {P : Po} (hL : l.length < 1000) (hr : row.length = ps.length) (ho : okS ps.length l) (ht : tm.natAbs ≤ 2000) (hB : ∀ a ∈ row, a.natAbs ≤ B) (h12 : NI s12) (h15 : NI s15)
    (nx : ∀ (row' : List Int) s12 s15, row'.length = ps.length → (∀ a ∈ row', a.natAbs ≤ B + l.length * 2000) → NI s12 → NI s15 → P.nx (fE st (row'.map D.int) n m e ps came s6 s10 s11 s12 s13 s14 s15 (.sh (.int tm)))) (hB2 : B + l.length * 2000 < 2 ^ 40) :
    ∃ W : Nat → En → Prop, W 0 (fE st (row.map D.int) n m e ps came s6 s10 s11 s12 s13 s14 s15 (.sh (.int tm))) ∧ (∀ k ρ' d, (l.map stepD)[k]? = some d → W k ρ' → dTg (.tp (.nm 12) (.tp (.nm 15) .tz)) d ρ' fun ρ2 => dSs Γ fl6 ρ2 ((P.sq fun ρ1 => dSs Γ .nil ρ1 P).lp (W (k + 1)) (P.sq fun ρ1 => dSs Γ .nil ρ1 P).nx)) ∧ ∀ ρ', W (l.map stepD).length ρ' → P.nx ρ' := by
  refine ⟨fun k ρ => ∃ (row' : List Int) (s12 s15 : Sl), row'.length = ps.length ∧ (∀ a ∈ row', a.natAbs ≤ B + k * 2000) ∧ ρ = fE st (row'.map D.int) n m e ps came s6 s10 s11 s12 s13 s14 s15 (.sh (.int tm)) ∧ NI s12 ∧ NI s15, ⟨row, _, _, hr, fun a ha => by have := hB a ha; omega, rfl, h12, h15⟩, ?_, ?_⟩
  · rintro k ρ d hd ⟨row', t12, t15, hr', hB', rfl, g12, g15⟩
    rw [List.getElem?_map] at hd
    obtain ⟨x, hx, rfl⟩ := Option.map_eq_some_iff.mp hd
    have hk := (List.getElem?_eq_some_iff.mp hx).1
    obtain ⟨o1, o2⟩ := ho x (List.mem_of_getElem? hx)
    obtain ⟨a, ha⟩ : ∃ a, row'[x.1]? = some a := ⟨row'[x.1]'(by omega), List.getElem?_eq_getElem (by omega)⟩
    have hla := hB' a (List.mem_of_getElem? ha)
    have ra : dIx (.lst (row'.map D.int)) (.int (x.1 : Int)) = some (.int a) := lst_at (by rw [List.getElem?_map, ha]; rfl)
    have lx : x.2.natAbs.log2 = 0 := by
      rcases o2 with e | e <;> rw [e] <;> decide +kernel
    have lt : tm.natAbs.log2 < 11 := log_lt (by omega) (by decide)
    refine ⟨g12, g15, rfl, ?_⟩
    refine w1_at ra ?_
    refine ⟨show x.2.natAbs.log2 + tm.natAbs.log2 < 1000000 by omega, ?_⟩
    refine w1_at rfl ?_
    refine w1_at rfl ?_
    refine w1_at (ixN_at (m := (row'.map D.int).length) (v := (x.1 : Int)) (by omega) (by rw [List.length_map]; omega)) ?_
    refine ⟨row'.set x.1 (a + x.2 * tm), .sh (.int (x.1 : Int)), .sh (.int x.2), by rw [List.length_set]; exact hr', fun b hb => ?_, ?_, rfl, rfl⟩
    · rcases List.mem_or_eq_of_mem_set hb with hb | rfl
      · have := hB' b hb
        omega
      · have t1 : (x.2 * tm).natAbs ≤ 2000 := by
          rw [Int.natAbs_mul]
          rcases o2 with e | e <;> rw [e] <;> simp <;> exact ht
        have := Int.natAbs_add_le a (x.2 * tm)
        omega
    · show _ = fE _ ((row'.set x.1 (a + x.2 * tm)).map D.int) _ _ _ _ _ _ _ _ _ _ _ _ _
      rw [List.map_set]
      rfl
  · rintro ρ ⟨row', t12, t15, hr', hB', rfl, g12, g15⟩
    rw [List.length_map] at hB'
    exact nx row' _ _ hr' hB' g12 g15
theorem okS.snoc {c o : Nat} {l : List (Nat × Int)} {s : Int} (h : okS c l) (ho : o < c) (hs : s = 1 ∨ s = -1) : okS c (l ++ [(o, s)]) := fun x hx => by
  rcases List.mem_append.mp hx with hx | hx
  · exact h x hx
  · rw [List.mem_singleton.mp hx]
    exact ⟨ho, hs⟩
structure FlwG (Γ : Tb) : Prop where
  n : Γ.f "_law_next" = some nextF
  s : Γ.f "_law_shuffled" = some shufF
/-- from the shuffled edges on -/
theorem fl_mid {xs row : List Int} {p n B : Nat} {m e : Int} {ps : List (Int × Int)} {came : List D} {s6 s10 s11 s12 s13 s14 s15 s16 : Sl} {P : Po} (hf : FlwG Γ) (h0 : 0 < xs.length) (hl : xs.length < line) (hs : small xs) (hp : p + 40 < 1000000) (ok : okG n ps) (hn : n ≤ 20) (hps : ps.length ≤ 20) (hc : okC ps.length n 0 came)
    (he : (0 ≤ e ∧ e < ps.length) ∨ e = -1) (hm : 0 < m ∧ m ≤ 1000) (hr : row.length = ps.length) (hB : ∀ a ∈ row, a.natAbs ≤ B) (hB2 : B + 2000000 < 2 ^ 40) (h10 : NI s10) (h11 : NI s11) (h12 : NI s12) (h13 : NI s13) (h14 : NI s14) (h15 : NI s15) (h16 : NI s16)
    (nx : ∀ (p' : Nat) (row' : List Int) (came' : List D) (s10 s11 s12 s13 s14 s15 s16 : Sl), p' ≤ p + 25 → row'.length = ps.length → (∀ a ∈ row', a.natAbs ≤ B + 2000000) → NI s10 → NI s11 → NI s12 → NI s13 → NI s14 → NI s15 → NI s16 → P.nx (fE (stL xs p') (row'.map D.int) n m e ps came' s6 s10 s11 s12 s13 s14 s15 s16)) :
    dSs Γ (tlS 2 fl1) (fE (stL xs p) (row.map D.int) n m e ps came s6 s10 s11 s12 s13 s14 s15 s16) P := by
  have hb : 1000 < line := by decide
  conv => whnf
  rw [hf.s]
  refine ⟨(show ([0] : List Nat).Nodup by decide), fun i h1 h2 => (by cases h2), xs, p, ps.length, by rw [List.length_map] <;> rfl, h0, hl, hs, by omega, fun ord hord => ?_⟩
  have lord : ord.length = ps.length := by rw [hord.length_eq, List.length_range]
  have mord : ∀ o ∈ ord, o < ps.length := fun o ho => List.mem_range.mp (hord.mem_iff.mp ho)
  refine ⟨h10, ?_⟩
  conv => whnf
  refine ⟨⟨by omega, by omega⟩, ?_⟩
  refine ⟨fun k ρ => ∃ (came' : List D) (s10 s11 s12 s13 s14 s15 : Sl), okC ps.length n (40 * k) came' ∧ ρ = fE (stL xs (p + ps.length)) (row.map D.int) n m e ps came' s6 s10 s11 s12 s13 s14 s15 s16 ∧ (s10 = .ow (ord.map natD) ∨ s10 = .sh (.lst (ord.map natD))) ∧ NI s11 ∧ NI s12 ∧ NI s13 ∧ NI s14 ∧ NI s15, ⟨came, .ow (ord.map natD), s11, s12, s13, s14, s15, hc, rfl, .inl rfl, h11, h12, h13, h14, h15⟩, ?_, ?_⟩
  · rintro k ρ d hd ⟨came', t10, t11, t12, t13, t14, t15, hc', rfl, g10, g11, g12, g13, g14, g15⟩
    obtain ⟨hk, rfl⟩ := getR hd
    have hk : k < 20 := by omega
    refine ⟨g11, ?_⟩
    exact fl_all (L := 40 * k) (by omega) ok hc' mord g10 g12 g13 g14 g15 fun c2 u12 u13 u14 u15 hc2 k12 k13 k14 k15 => ⟨c2, .sh (.lst (ord.map natD)), .sh (.int (0 + (k : Int))), u12, u13, u14, u15, hc2.mono (by omega), rfl, .inr rfl, rfl, k12, k13, k14, k15⟩
  · rintro ρ ⟨came', t10, t11, t12, t13, t14, t15, hc', rfl, g10, g11, g12, g13, g14, g15⟩
    rw [rngD_len, show ((n : Int) - 0).toNat = n from by omega] at hc'
    have n10 : NI t10 := by
      rcases g10 with rfl | rfl <;> rfl
    have hc2 := hc'.mono (show 40 * n ≤ 800 by omega)
    clear hc' g10
    conv => whnf
    rw [hf.n]
    refine ⟨(show ([0] : List Nat).Nodup by decide), fun i h1 h2 => (by cases h2), xs, p + ps.length, 2, rfl, by omega, h0, hl, hs, by omega, fun a ha => ?_⟩
    have last : ∀ (tm : Int) (p' : Nat), p' ≤ p + 25 → tm.natAbs ≤ 2000 → dSs Γ (tlS 5 fl1) (fE (stL xs p') (row.map D.int) n m e ps came' s6 t10 t11 t12 t13 t14 t15 (.sh (.int tm))) P := fun tm p' hp' ht => by
      have stay := nx p' row came' t10 t11 t12 t13 t14 t15 (.sh (.int tm)) hp' hr (fun a ha => by have := hB a ha; omega) n10 g11 g12 g13 g14 g15 rfl
      rcases he with he | rfl
      · obtain ⟨e0, rfl⟩ := Int.eq_ofNat_of_zero_le he.1
        have he0 : e0 < ps.length := by omega
        obtain ⟨pr, hpr⟩ : ∃ pr, ps[e0]? = some pr := ⟨ps[e0], List.getElem?_eq_getElem he0⟩
        have q := ok pr (List.mem_of_getElem? hpr)
        have pa : dIx (.lst (ps.map pairD)) (.int (e0 : Int)) = some (pairD pr) := lst_at (by rw [List.getElem?_map, hpr]; rfl)
        obtain ⟨d1, e1, k1⟩ := came_at hc2 q.1 q.2.1
        conv => whnf
        refine w1_at pa ?_
        refine w1_at e1 ?_
        rcases k1 with rfl | ⟨l1, rfl, a1, b1⟩
        · exact stay
        · conv => whnf
          refine w1_at pa ?_
          refine w1_at e1 ?_
          refine ⟨by show 2 ≤ line; decide, ?_⟩
          refine ⟨by show 1 ≤ line; decide, ?_⟩
          refine ⟨by show (l1.map stepD).length + 1 ≤ line; rw [List.length_map]; omega, ?_⟩
          have e2 : l1.map stepD ++ [D.tup [.int (e0 : Int), .int 1]] = (l1 ++ [(e0, (1 : Int))]).map stepD := by rw [List.map_append] <;> rfl
          have lle : (l1 ++ [(e0, (1 : Int))]).length ≤ 801 := by
            rw [List.length_append]
            show l1.length + 1 ≤ 801
            omega
          have z := fl_put (Γ := Γ) (st := stL xs p') (row := row) (n := n) (B := B) (m := m) (e := (e0 : Int)) (tm := tm) (ps := ps) (came := came') (l := l1 ++ [(e0, (1 : Int))]) (s6 := s6) (s10 := t10) (s11 := t11) (s12 := t12) (s13 := t13) (s14 := t14) (s15 := t15) (P := P) (by omega) hr (b1.snoc he0 (.inl rfl)) ht hB g12 g15 (fun row' u12 u15 hr' hB' k12 k15 => nx p' row' came' t10 t11 u12 t13 t14 u15 (.sh (.int tm)) hp' hr' (fun a ha => by have := hB' a ha; omega) n10 g11 k12 g13 g14 k15 rfl) (by omega)
          rw [← e2] at z
          exact z
      · exact stay
    by_cases h : (a : Int) = 0
    · refine ite_t (c := decide ((a : Int) = 0) = true) (decide_eq_true h) ?_
      obtain ⟨m0, rfl⟩ := Int.eq_ofNat_of_zero_le (Int.le_of_lt hm.1)
      conv => whnf
      rw [hf.n]
      refine ⟨(show ([0] : List Nat).Nodup by decide), fun i h1 h2 => (by cases h2), xs, p + ps.length + 1, m0, rfl, by omega, h0, hl, hs, by omega, fun b hb => ?_⟩
      refine ⟨h16, ?_⟩
      exact last _ _ (by omega) (by omega)
    · refine ite_f (c := decide ((a : Int) = 0) = true) (by rw [decide_eq_true_eq]; exact h) ?_
      obtain ⟨m0, rfl⟩ := Int.eq_ofNat_of_zero_le (Int.le_of_lt hm.1)
      conv => whnf
      rw [hf.n]
      refine ⟨(show ([0] : List Nat).Nodup by decide), fun i h1 h2 => (by cases h2), xs, p + ps.length + 1, m0, rfl, by omega, h0, hl, hs, by omega, fun b hb => ?_⟩
      refine ⟨h16, ?_⟩
      exact last _ _ (by omega) (by omega)
end
end M
set_option linter.all false
set_option Elab.async false
set_option maxRecDepth 10000
set_option maxHeartbeats 4000000
/-! K11S: the law's flows, as a whole. -/
namespace M
open PySem PySem.Spec PyProof.Rows L2 C8
section
variable {Γ : Tb}
def flowF : Fn := ⟨[.io, .sh, .bo, .sh], fun ds Q _ => ∃ (xs : List Int) (p n m : Nat) (ps : List (Int × Int)), ds = [stD xs p, .int n, .lst (ps.map pairD), .int m] ∧ 0 < xs.length ∧ xs.length < line ∧ small xs ∧ p + 200 < 1000000 ∧ okG n ps ∧ n ≤ 20 ∧ ps.length ≤ 20 ∧ 0 < m ∧ m ≤ 1000 ∧
  ∀ (row : List Int) (p' : Nat), row.length = ps.length → (∀ a ∈ row, a.natAbs < 2 ^ 40) → p' ≤ p + 130 → Q (.fr (row.map D.int)) [stL xs p']⟩
theorem okC_nil (c n : Nat) : okC c 0 0 [] := ⟨rfl, fun d h => (by cases h)⟩
/-- the came list at the start of a turn -/
theorem fl_came {st row : List D} {n : Nat} {m e : Int} {ps : List (Int × Int)} {s6 s8 s10 s11 s12 s13 s14 s15 s16 : Sl} {P : Po} (hn : n ≤ 20) (he : (0 ≤ e ∧ e < ps.length) ∨ e = -1) (h8 : NI s8)
    (nx : ∀ came, okC ps.length n 0 came → dSs Γ (tlS 2 fl1) (fE st row n m e ps came s6 s10 s11 s12 s13 s14 s15 s16) P) :
    dSs Γ (tlS 1 fl1) [.io st, .sh (.int n), .bo (ps.map pairD), .sh (.int m), .ow row, .top, s6, .sh (.int e), s8, .top, s10, s11, s12, s13, s14, s15, s16] P := by
  have hb : 1000 < line := by decide
  conv => whnf
  refine ⟨⟨by omega, by omega⟩, ?_⟩
  refine ⟨rfl, fun k acc ρ => okC ps.length k 0 acc ∧ ρ = [.io st, .sh (.int n), .bo (ps.map pairD), .sh (.int m), .ow row, .top, s6, .sh (.int e), s8, .top, s10, s11, s12, s13, s14, s15, s16], ⟨⟨rfl, fun d h => (by cases h)⟩, rfl⟩, ?_, ?_⟩
  · rintro k acc ρ d hd ⟨hc, rfl⟩
    obtain ⟨hk, rfl⟩ := getR hd
    have hk : k < 20 := by omega
    have snoc : ∀ d : D, (d = .non ∨ d = .lst []) → okC ps.length (k + 1) 0 (acc ++ [d]) := fun d hd => ⟨by rw [List.length_append, hc.1] <;> rfl, fun x hx => by
      rcases List.mem_append.mp hx with hx | hx
      · exact hc.2 x hx
      · rw [List.mem_singleton.mp hx]
        rcases hd with rfl | rfl
        · exact .inl rfl
        · exact .inr ⟨[], rfl, Nat.le_refl _, fun x h => (by cases h)⟩⟩
    have la : acc.length < line := by rw [hc.1]; omega
    refine ⟨rfl, ?_⟩
    rcases he with he | rfl
    · obtain ⟨e0, rfl⟩ := Int.eq_ofNat_of_zero_le he.1
      have he0 : e0 < ps.length := by omega
      obtain ⟨pr, hpr⟩ : ∃ pr, ps[e0]? = some pr := ⟨ps[e0], List.getElem?_eq_getElem he0⟩
      have pa : dIx (.lst (ps.map pairD)) (.int (e0 : Int)) = some (pairD pr) := lst_at (by rw [List.getElem?_map, hpr]; rfl)
      conv => whnf
      refine w1_at pa ?_
      by_cases h : (0 + (k : Int)) = pr.2
      · refine ite_t (c := decide ((0 + (k : Int)) = pr.2) = true) (decide_eq_true h) ?_
        exact ⟨by show 0 ≤ line; omega, la, snoc _ (.inr rfl), rfl⟩
      · refine ite_f (c := decide ((0 + (k : Int)) = pr.2) = true) (by rw [decide_eq_true_eq]; exact h) ?_
        exact ⟨la, snoc _ (.inl rfl), rfl⟩
    · exact ⟨la, snoc _ (.inl rfl), rfl⟩
  · rintro acc ρ ⟨hc, rfl⟩
    rw [rngD_len, show ((n : Int) - 0).toNat = n from by omega] at hc
    refine ⟨h8, ?_⟩
    exact nx acc hc
def flW (xs : List Int) (p n m : Nat) (ps : List (Int × Int)) (k : Nat) (ρ : En) : Prop := ∃ (p' : Nat) (row : List Int) (s6 s7 s8 s10 s11 s12 s13 s14 s15 s16 : Sl), p' ≤ p + 1 + 26 * k ∧ row.length = ps.length ∧ (∀ a ∈ row, a.natAbs ≤ k * 2000000) ∧
      ρ = [.io (stL xs p'), .sh (.int n), .bo (ps.map pairD), .sh (.int m), .ow (row.map D.int), .top, s6, s7, s8, .top, s10, s11, s12, s13, s14, s15, s16] ∧ NI s6 ∧ NI s7 ∧ NI s8 ∧ NI s10 ∧ NI s11 ∧ NI s12 ∧ NI s13 ∧ NI s14 ∧ NI s15 ∧ NI s16
theorem p_some_flow (hf : FlwG Γ) : ∀ ds Q X, flowF.sp ds Q X → dDef Γ [.io, .sh, .bo, .sh] 13 b_law_some_flow ds Q X := by
  rintro ds Q X ⟨xs, p, n, m, ps, rfl, h0, hl, hs, hp, ok, hn, hps, hm, hm2, q⟩
  have hb : 1000 < line := by decide
  conv => whnf
  refine ⟨rfl, fun k acc ρ => acc = (List.replicate k (0 : Int)).map D.int ∧ ρ = [.io (stL xs p), .sh (.int n), .bo (ps.map pairD), .sh (.int m), .top, .top, .top, .top, .top, .top, .top, .top, .top, .top, .top, .top, .top], ⟨rfl, rfl⟩, ?_, ?_⟩
  · rintro k acc ρ d hd ⟨rfl, rfl⟩
    have hk := (List.getElem?_eq_some_iff.mp hd).1
    rw [List.length_map] at hk
    refine ⟨rfl, ?_⟩
    refine ⟨by rw [List.length_map, List.length_replicate]; omega, ?_, rfl⟩
    rw [List.replicate_succ', List.map_append] <;> rfl
  · rintro acc ρ ⟨rfl, rfl⟩
    rw [List.length_map]
    refine ⟨rfl, ?_⟩
    conv => whnf
    rw [hf.n]
    refine ⟨(show ([0] : List Nat).Nodup by decide), fun i h1 h2 => (by cases h2), xs, p, 5, rfl, by omega, h0, hl, hs, by omega, fun r hr => ?_⟩
    refine ⟨⟨by omega, by omega⟩, ?_⟩
    refine ⟨flW xs p n m ps,
      ⟨p + 1, List.replicate ps.length 0, .top, .top, .top, .top, .top, .top, .top, .top, .top, .top, by omega, by rw [List.length_replicate], fun a ha => by rw [List.eq_of_mem_replicate ha]; decide, rfl, rfl, rfl, rfl, rfl, rfl, rfl, rfl, rfl, rfl, rfl⟩, ?_, ?_⟩
    · rintro k ρ d hd ⟨p', row, s6, s7, s8, s10, s11, s12, s13, s14, s15, s16, hp', hr', hB, rfl, g6, g7, g8, g10, g11, g12, g13, g14, g15, g16⟩
      obtain ⟨hk, rfl⟩ := getR hd
      have hk : k < 5 := by omega
      refine ⟨g6, ?_⟩
      have fin : ∀ (e : Int) (p2 : Nat) (P : Po), p2 ≤ p' + 1 → ((0 ≤ e ∧ e < ps.length) ∨ e = -1) → (∀ ρ, flW xs p n m ps (k + 1) ρ → P.nx ρ) → dSs Γ (tlS 1 fl1) [.io (stL xs p2), .sh (.int n), .bo (ps.map pairD), .sh (.int m), .ow (row.map D.int), .top, .sh (.int (0 + (k : Int))), .sh (.int e), s8, .top, s10, s11, s12, s13, s14, s15, s16] P := fun e p2 P hp2 he hP =>
        fl_came hn he g8 fun came hc => fl_mid (B := k * 2000000) hf h0 hl hs (by omega) ok hn hps hc he ⟨by omega, by omega⟩ hr' hB (by omega) g10 g11 g12 g13 g14 g15 g16 fun p3 row' came' t10 t11 t12 t13 t14 t15 t16 hp3 hr3 hB3 k10 k11 k12 k13 k14 k15 k16 =>
          hP _ ⟨p3, row', .sh (.int (0 + (k : Int))), .sh (.int e), .ow came', t10, t11, t12, t13, t14, t15, t16, by omega, hr3, fun a ha => by have := hB3 a ha; omega, rfl, rfl, rfl, rfl, k10, k11, k12, k13, k14, k15, k16⟩
      by_cases hz : ps.length = 0
      · refine ite_f (c := decide ((0 : Int) < ((ps.map pairD).length : Nat)) = true) (by rw [decide_eq_true_eq, List.length_map]; omega) ?_
        refine ⟨g7, ?_⟩
        exact fin (-1) p' _ (by omega) (.inr rfl) fun _ h => h
      · refine ite_t (c := decide ((0 : Int) < ((ps.map pairD).length : Nat)) = true) (decide_eq_true (by rw [List.length_map]; omega)) ?_
        conv => whnf
        rw [hf.n]
        refine ⟨(show ([0] : List Nat).Nodup by decide), fun i h1 h2 => (by cases h2), xs, p', ps.length, by rw [List.length_map] <;> rfl, by omega, h0, hl, hs, by omega, fun e he => ?_⟩
        refine ⟨g7, ?_⟩
        exact fin e (p' + 1) _ (by omega) (.inl ⟨by omega, by omega⟩) fun _ h => h
    · rintro ρ ⟨p', row, s6, s7, s8, s10, s11, s12, s13, s14, s15, s16, hp', hr', hB, rfl, _⟩
      rw [rngD_len, show ((r : Int) - 0).toNat = r from by omega] at hp' hB
      have pw : (5 : Nat) * 2000000 < 2 ^ 40 := by decide
      refine ⟨_, _, rfl, rfl, q row p' hr' (fun a ha => ?_) (by omega)⟩
      have := hB a ha
      omega
end
end M
set_option linter.all false
set_option Elab.async false
set_option maxRecDepth 10000
namespace M
open PySem (Str PyData)
/-- check_vertex: 0 graph 1 vertex -/
def b_check_vertex3 : Ss :=
  (.cons (.iff (.not (.chn .le .lt (.int 0) (.var 1) (.prop (.var 0) "vertices")))
   (.cons .dead
    .nil)
   .nil)
  .nil)
def n_check_vertex3 : List Str := ["graph", "vertex"]
/-- marked_vertices: 0 graph 1 vertices 2 marks 3 vertex -/
def b_marked_vertices : Ss :=
  (.cons (.asg (.nm 2) (.bin .mul (.lst (.cons (.bl false) .nil)) (.prop (.var 0) "vertices")))
  (.cons (.forr (.nm 3) (.ex (.var 1))
   (.cons (.ex (.call "check_vertex" (.cons (.var 0) (.cons (.var 3) .nil))))
    (.cons (.set (.var 2) (.var 3) (.bl true))
    .nil)))
  (.cons (.ret (.var 2))
  .nil)))
def n_marked_vertices : List Str := ["graph", "vertices", "marks", "vertex"]
/-- places: 0 marks 1 place 2 mark -/
def b_places : Ss :=
  (.cons (.ret (.lc (.var 1) (.tp (.nm 1) (.tp (.nm 2) .tz)) (.enu (.var 0)) (.cons (.ex (.var 2)) .nil) [("place", 1), ("mark", 2)]))
  .nil)
def n_places : List Str := ["marks", "place", "mark"]
/-- step_ends: 0 graph 1 step 2 edge 3 sign 4 tail 5 head -/
def b_step_ends : Ss :=
  (.cons (.asg (.tp (.nm 2) (.tp (.nm 3) .tz)) (.var 1))
  (.cons (.asg (.tp (.nm 4) (.tp (.nm 5) .tz)) (.meth (.var 0) "ends" (.cons (.var 2) .nil)))
  (.cons (.ret (.ife (.cmp .eq (.var 3) (.int 1)) (.tup (.cons (.var 4) (.cons (.var 5) .nil))) (.tup (.cons (.var 5) (.cons (.var 4) .nil)))))
  .nil)))
def n_step_ends : List Str := ["graph", "step", "edge", "sign", "tail", "head"]
/-- both_ways: 0 marks 1 mark -/
def b_both_ways : Ss :=
  (.cons (.ret (.lc (.ife (.ex (.var 1)) (.tup (.cons (.int 1) (.cons (.neg (.int 1)) .nil))) (.tup .nil)) (.nm 1) (.ex (.var 0)) .nil [("mark", 1)]))
  .nil)
def n_both_ways : List Str := ["marks", "mark"]
/-- steps_from: 0 graph 1 here 2 signs 3 found 4 edge 5 sign 6 first 7 last -/
def b_steps_from : Ss :=
  (.cons (.asg (.nm 3) (.lst .nil))
  (.cons (.forr (.nm 4) (.ex (.meth (.var 0) "edges_at" (.cons (.var 1) .nil)))
   (.cons (.forr (.nm 5) (.ex (.ix (.var 2) (.var 4)))
     (.cons (.asg (.tp (.nm 6) (.tp (.nm 7) .tz)) (.call "step_ends" (.cons (.var 0) (.cons (.tup (.cons (.var 4) (.cons (.var 5) .nil))) .nil))))
      (.cons (.iff (.cmp .eq (.var 6) (.var 1))
       (.cons (.app (.var 3) (.tup (.cons (.tup (.cons (.var 4) (.cons (.var 5) .nil))) (.cons (.var 7) .nil))))
        .nil)
       .nil)
      .nil)))
    .nil))
  (.cons (.ret (.var 3))
  .nil)))
def n_steps_from : List Str := ["graph", "here", "signs", "found", "edge", "sign", "first", "last"]
/-- reached: 0 graph 1 start 2 signs 3 seen 4 waiting 5 here 6 _ 7 last -/
def b_reached : Ss :=
  (.cons (.asg (.nm 3) (.bin .mul (.lst (.cons (.bl false) .nil)) (.prop (.var 0) "vertices")))
  (.cons (.set (.var 3) (.var 1) (.bl true))
  (.cons (.asg (.nm 4) (.lst (.cons (.var 1) .nil)))
  (.cons (.whl (.ex (.var 4))
   (.cons (.pop 5 (.var 4))
    (.cons (.forr (.tp (.nm 6) (.tp (.nm 7) .tz)) (.ex (.call "steps_from" (.cons (.var 0) (.cons (.var 5) (.cons (.var 2) .nil)))))
     (.cons (.iff (.not (.ex (.ix (.var 3) (.var 7))))
       (.cons (.set (.var 3) (.var 7) (.bl true))
        (.cons (.app (.var 4) (.var 7))
        .nil))
       .nil)
      .nil))
    .nil)))
  (.cons (.ret (.var 3))
  .nil)))))
def n_reached : List Str := ["graph", "start", "signs", "seen", "waiting", "here", "_", "last"]
/-- component_of: 0 graph 1 vertex -/
def b_component_of : Ss :=
  (.cons (.ex (.call "check_vertex" (.cons (.var 0) (.cons (.var 1) .nil))))
  (.cons (.ret (.call "places" (.cons (.call "reached" (.cons (.var 0) (.cons (.var 1) (.cons (.call "both_ways" (.cons (.bin .mul (.lst (.cons (.bl true) .nil)) (.leni (.var 0))) .nil)) .nil)))) .nil)))
  .nil))
def n_component_of : List Str := ["graph", "vertex"]
/-- components: 0 graph -/
def b_components : Ss :=
  (.cons (.ret (.call "parts_of" (.cons (.var 0) (.cons (.bin .mul (.lst (.cons (.bl true) .nil)) (.leni (.var 0))) .nil))))
  .nil)
def n_components : List Str := ["graph"]
/-- parts_of: 0 graph 1 marks 2 signs 3 met 4 rows 5 vertex 6 row 7 member -/
def b_parts_of : Ss :=
  (.cons (.asg (.nm 2) (.call "both_ways" (.cons (.var 1) .nil)))
  (.cons (.asg (.nm 3) (.bin .mul (.lst (.cons (.bl false) .nil)) (.prop (.var 0) "vertices")))
  (.cons (.asg (.nm 4) (.lst .nil))
  (.cons (.forr (.nm 5) (.rng (.cons (.prop (.var 0) "vertices") .nil))
   (.cons (.iff (.not (.ex (.ix (.var 3) (.var 5))))
     (.cons (.asg (.nm 6) (.call "places" (.cons (.call "reached" (.cons (.var 0) (.cons (.var 5) (.cons (.var 2) .nil)))) .nil)))
      (.cons (.forr (.nm 7) (.ex (.var 6))
       (.cons (.set (.var 3) (.var 7) (.bl true))
        .nil))
      (.cons (.app (.var 4) (.var 6))
      .nil)))
     .nil)
    .nil))
  (.cons (.ret (.var 4))
  .nil)))))
def n_parts_of : List Str := ["graph", "marks", "signs", "met", "rows", "vertex", "row", "member"]
/-- boundary: 0 graph 1 side 2 inside 3 edge 4 tail 5 head -/
def b_boundary : Ss :=
  (.cons (.asg (.nm 2) (.call "marked_vertices" (.cons (.var 0) (.cons (.var 1) .nil))))
  (.cons (.ret (.lc (.var 3) (.tp (.nm 3) (.tp (.tp (.nm 4) (.tp (.nm 5) .tz)) .tz)) (.enu (.var 0)) (.cons (.cmp .ne (.ix (.var 2) (.var 4)) (.ix (.var 2) (.var 5))) .nil) [("edge", 3), ("tail", 4), ("head", 5)]))
  .nil))
def n_boundary : List Str := ["graph", "side", "inside", "edge", "tail", "head"]
/-- leaving: 0 graph 1 side 2 inside 3 edge 4 tail 5 head -/
def b_leaving : Ss :=
  (.cons (.asg (.nm 2) (.call "marked_vertices" (.cons (.var 0) (.cons (.var 1) .nil))))
  (.cons (.ret (.lc (.var 3) (.tp (.nm 3) (.tp (.tp (.nm 4) (.tp (.nm 5) .tz)) .tz)) (.enu (.var 0)) (.cons (.and (.cons (.ex (.ix (.var 2) (.var 4))) (.cons (.not (.ex (.ix (.var 2) (.var 5)))) .nil))) .nil) [("edge", 3), ("tail", 4), ("head", 5)]))
  .nil))
def n_leaving : List Str := ["graph", "side", "inside", "edge", "tail", "head"]
/-- entering: 0 graph 1 side 2 inside 3 edge 4 tail 5 head -/
def b_entering : Ss :=
  (.cons (.asg (.nm 2) (.call "marked_vertices" (.cons (.var 0) (.cons (.var 1) .nil))))
  (.cons (.ret (.lc (.var 3) (.tp (.nm 3) (.tp (.tp (.nm 4) (.tp (.nm 5) .tz)) .tz)) (.enu (.var 0)) (.cons (.and (.cons (.ex (.ix (.var 2) (.var 5))) (.cons (.not (.ex (.ix (.var 2) (.var 4)))) .nil))) .nil) [("edge", 3), ("tail", 4), ("head", 5)]))
  .nil))
def n_entering : List Str := ["graph", "side", "inside", "edge", "tail", "head"]
/-- _law_reach: 0 many 1 pairs 2 barred 3 start 4 seen 5 vertex 6 k 7 grown 8 edge -/
def b_law_reach : Ss :=
  (.cons (.asg (.nm 4) (.lc (.cmp .eq (.var 5) (.var 3)) (.nm 5) (.rng (.cons (.var 0) .nil)) .nil [("vertex", 5)]))
  (.cons (.forr (.nm 6) (.rng (.cons (.var 0) .nil))
   (.cons (.asg (.nm 7) (.bl false))
    (.cons (.forr (.nm 8) (.rng (.cons (.bi .len (.cons (.var 1) .nil)) .nil))
     (.cons (.iff (.and (.cons (.not (.ex (.ix (.var 2) (.var 8)))) (.cons (.cmp .ne (.ix (.var 4) (.ix (.ix (.var 1) (.var 8)) (.int 0))) (.ix (.var 4) (.ix (.ix (.var 1) (.var 8)) (.int 1)))) .nil)))
       (.cons (.set (.var 4) (.ix (.ix (.var 1) (.var 8)) (.int 0)) (.bl true))
        (.cons (.set (.var 4) (.ix (.ix (.var 1) (.var 8)) (.int 1)) (.bl true))
        (.cons (.asg (.nm 7) (.bl true))
        .nil)))
       .nil)
      .nil))
    (.cons (.iff (.not (.ex (.var 7)))
     (.cons .brk
      .nil)
     .nil)
    .nil))))
  (.cons (.ret (.var 4))
  .nil)))
def n_law_reach : List Str := ["many", "pairs", "barred", "start", "seen", "vertex", "k", "grown", "edge"]
/-- _law_parts: 0 many 1 pairs 2 parts 3 vertex 4 seen 5 pair 6 row 7 other -/
def b_law_parts : Ss :=
  (.cons (.asg (.nm 2) (.lst .nil))
  (.cons (.forr (.nm 3) (.rng (.cons (.var 0) .nil))
   (.cons (.asg (.nm 4) (.call "_law_reach" (.cons (.var 0) (.cons (.var 1) (.cons (.lc (.bl false) (.nm 5) (.ex (.var 1)) .nil [("pair", 5)]) (.cons (.var 3) .nil))))))
    (.cons (.asg (.nm 6) (.lc (.var 7) (.nm 7) (.rng (.cons (.var 0) .nil)) (.cons (.ex (.ix (.var 4) (.var 7))) .nil) [("other", 7)]))
    (.cons (.iff (.cmp .eq (.ix (.var 6) (.int 0)) (.var 3))
     (.cons (.app (.var 2) (.var 6))
      .nil)
     .nil)
    .nil))))
  (.cons (.ret (.var 2))
  .nil)))
def n_law_parts : List Str := ["many", "pairs", "parts", "vertex", "seen", "pair", "row", "other"]
/-- _law_sides: 0 graph 1 pairs 2 side 3 passed 4 told 5 out 6 edge 7 back -/
def b_law_sides : Ss :=
  (.cons (.asg (.nm 3) (.bi .list (.cons (.var 2) .nil)))
  (.cons (.asg (.nm 4) (.lst (.cons (.call "boundary" (.cons (.var 0) (.cons (.var 3) .nil))) (.cons (.call "leaving" (.cons (.var 0) (.cons (.var 3) .nil))) (.cons (.call "entering" (.cons (.var 0) (.cons (.var 3) .nil))) .nil)))))
  (.cons (.iff (.cmp .ne (.var 3) (.var 2))
   (.cons (.ret (.bl false))
    .nil)
   .nil)
  (.cons (.asg (.nm 5) (.lc (.var 6) (.nm 6) (.rng (.cons (.bi .len (.cons (.var 1) .nil)) .nil)) (.cons (.and (.cons (.cmp .isin (.ix (.ix (.var 1) (.var 6)) (.int 0)) (.var 2)) (.cons (.cmp .notin (.ix (.ix (.var 1) (.var 6)) (.int 1)) (.var 2)) .nil))) .nil) [("edge", 6)]))
  (.cons (.asg (.nm 7) (.lc (.var 6) (.nm 6) (.rng (.cons (.bi .len (.cons (.var 1) .nil)) .nil)) (.cons (.and (.cons (.cmp .isin (.ix (.ix (.var 1) (.var 6)) (.int 1)) (.var 2)) (.cons (.cmp .notin (.ix (.ix (.var 1) (.var 6)) (.int 0)) (.var 2)) .nil))) .nil) [("edge", 6)]))
  (.cons (.ret (.cmp .eq (.bi .repr (.cons (.var 4) .nil)) (.bi .repr (.cons (.lst (.cons (.bi .sorted (.cons (.bin .add (.var 5) (.var 7)) .nil)) (.cons (.var 5) (.cons (.var 7) .nil)))) .nil))))
  .nil))))))
def n_law_sides : List Str := ["graph", "pairs", "side", "passed", "told", "out", "edge", "back"]
end M
set_option linter.all false
set_option Elab.async false
set_option maxRecDepth 10000
set_option maxHeartbeats 4000000
/-! K03P: the first defs of the cuts. -/
namespace M
open PySem PySem.Spec PyProof.Rows L2 C8
section
variable {Γ : Tb}
def checkF : Fn := ⟨[.sh, .sh], fun ds Q _ => ∃ (n : Nat) (ps : List (Int × Int)) (v : Nat), ds = [graphD n ps, .int v] ∧ v < n ∧ Q (.sh .non) []⟩
theorem p_check (hv : Γ.p "Graph" "vertices" = some verticesF) : ∀ ds Q X, checkF.sp ds Q X → dDef Γ [.sh, .sh] 0 b_check_vertex3 ds Q X := by
  rintro ds Q X ⟨n, ps, v, rfl, hv2, q⟩
  conv => whnf
  rw [hv]
  refine ⟨List.nodup_nil, fun _ h => (by cases h), n, ps, rfl, ?_⟩
  refine ite_f (by simp [dCm, hv2]) ?_
  exact ⟨_, rfl, q⟩
def placesG : Nat → List Bool → List Nat
  | _, [] => []
  | k, b :: bs => (if b = true then [k] else []) ++ placesG (k + 1) bs
theorem places_snoc (b : Bool) : ∀ (k : Nat) (bs : List Bool), placesG k (bs ++ [b]) = placesG k bs ++ (if b = true then [k + bs.length] else [])
  | k, [] => by simp [placesG]
  | k, c :: bs => by
    rw [List.cons_append, placesG, placesG, places_snoc b (k + 1) bs, List.append_assoc, List.length_cons]
    have : k + 1 + bs.length = k + (bs.length + 1) := by omega
    rw [this]
theorem places_len : ∀ {k : Nat} {bs : List Bool}, (placesG k bs).length ≤ bs.length
  | k, [] => Nat.le_refl _
  | k, b :: bs => by
    rw [placesG, List.length_append, List.length_cons]
    have := places_len (k := k + 1) (bs := bs)
    split
    · simp only [List.length_singleton]
      omega
    · simp only [List.length_nil]
      omega
def placesF : Fn := ⟨[.bo], fun ds Q _ => ∃ bs : List Bool, ds = [.lst (bs.map D.bl)] ∧ bs.length < line ∧ Q (.fr ((placesG 0 bs).map natD)) []⟩
theorem p_places : ∀ ds Q X, placesF.sp ds Q X → dDef Γ [.bo] 2 b_places ds Q X := by
  rintro ds Q X ⟨bs, rfl, hl, q⟩
  refine ⟨rfl, rfl, fun k acc ρ => ρ = [.bo (bs.map D.bl), .top, .top] ∧ acc = (placesG 0 (bs.take k)).map natD, ⟨rfl, rfl⟩, ?_, ?_⟩
  · rintro k acc ρ d hd ⟨rfl, rfl⟩
    obtain ⟨x, hx, rfl⟩ := getE hd
    rw [List.getElem?_map] at hx
    obtain ⟨b, hb, rfl⟩ := Option.map_eq_some_iff.mp hx
    have hk := (List.getElem?_eq_some_iff.mp hb).1
    have hs : placesG 0 (bs.take (k + 1)) = placesG 0 (bs.take k) ++ (if b = true then [k] else []) := by
      rw [List.take_succ_eq_append_getElem hk, (List.getElem?_eq_some_iff.mp hb).2, places_snoc, List.length_take, Nat.min_eq_left (Nat.le_of_lt hk), Nat.zero_add]
    have hacc : ((placesG 0 (bs.take k)).map natD).length < line := by
      rw [List.length_map]
      have := places_len (k := 0) (bs := bs.take k)
      rw [List.length_take] at this
      omega
    refine ⟨rfl, rfl, rfl, ?_⟩
    by_cases hm : b = true
    · refine ite_t hm ?_
      refine ⟨hacc, rfl, ?_⟩
      rw [hs, if_pos hm, List.map_append] <;> rfl
    · refine ite_f hm ?_
      refine ⟨rfl, ?_⟩
      rw [hs, if_neg hm, List.append_nil]
  · rintro acc ρ ⟨rfl, rfl⟩
    rw [enumD_len, List.length_map, List.take_length]
    exact ⟨_, _, rfl, rfl, q⟩
def stepP (s : Int) (p : Int × Int) : Int × Int := if s = 1 then p else (p.2, p.1)
def stepEndsF : Fn := ⟨[.sh, .sh], fun ds Q _ => ∃ (n : Nat) (ps : List (Int × Int)) (e : Nat) (s : Int) (p : Int × Int), ds = [graphD n ps, .tup [.int e, .int s]] ∧ ps[e]? = some p ∧ Q (.sh (pairD (stepP s p))) []⟩
theorem p_step_ends (he : Γ.m "Graph" "ends" = some endsF) : ∀ ds Q X, stepEndsF.sp ds Q X → dDef Γ [.sh, .sh] 4 b_step_ends ds Q X := by
  rintro ds Q X ⟨n, ps, e, s, p, rfl, hp, q⟩
  have l0 := lk0 (n := n) (ps := ps) (m := "ends") (by decide +kernel) (by decide +kernel) (by decide +kernel)
  refine ⟨rfl, rfl, rfl, l0, by rw [he] <;> rfl, ?_⟩
  conv => whnf
  rw [he]
  refine ⟨List.nodup_nil, fun _ h => (by cases h), n, ps, e, p, rfl, hp, ?_⟩
  refine ⟨rfl, rfl, rfl, ?_⟩
  by_cases h : s = 1
  · refine ite_t (decide_eq_true h) ?_
    refine ⟨(show 2 ≤ line by decide), _, _, rfl, rfl, ?_⟩
    unfold stepP at q
    rw [if_pos h] at q
    exact q
  · refine ite_f (show ¬ decide (s = 1) = true by simp [h]) ?_
    refine ⟨(show 2 ≤ line by decide), _, _, rfl, rfl, ?_⟩
    unfold stepP at q
    rw [if_neg h] at q
    exact q
def waysD (b : Bool) : D := if b = true then .tup [.int 1, .int (-1)] else .tup []
def bothWaysF : Fn := ⟨[.bo], fun ds Q _ => ∃ bs : List Bool, ds = [.lst (bs.map D.bl)] ∧ bs.length < line ∧ Q (.fr (bs.map waysD)) []⟩
theorem p_both_ways : ∀ ds Q X, bothWaysF.sp ds Q X → dDef Γ [.bo] 1 b_both_ways ds Q X := by
  rintro ds Q X ⟨bs, rfl, hl, q⟩
  refine ⟨rfl, fun k acc ρ => ρ = [.bo (bs.map D.bl), .top] ∧ acc = (bs.take k).map waysD, ⟨rfl, rfl⟩, ?_, ?_⟩
  · rintro k acc ρ d hd ⟨rfl, rfl⟩
    rw [List.getElem?_map] at hd
    obtain ⟨b, hb, rfl⟩ := Option.map_eq_some_iff.mp hd
    have hk := (List.getElem?_eq_some_iff.mp hb).1
    have hs : bs.take (k + 1) = bs.take k ++ [b] := by
      rw [List.take_succ_eq_append_getElem hk, (List.getElem?_eq_some_iff.mp hb).2]
    have hacc : ((bs.take k).map waysD).length < line := by
      rw [List.length_map, List.length_take]
      omega
    refine ⟨rfl, ?_⟩
    cases b with
    | true =>
      refine ⟨(show 2 ≤ line by decide), hacc, rfl, ?_⟩
      rw [hs, List.map_append] <;> rfl
    | false =>
      refine ⟨(show 0 ≤ line by decide), hacc, rfl, ?_⟩
      rw [hs, List.map_append] <;> rfl
  · rintro acc ρ ⟨rfl, rfl⟩
    rw [List.length_map, List.take_length]
    exact ⟨_, _, rfl, rfl, q⟩
end
end M
set_option linter.all false
set_option Elab.async false
set_option maxRecDepth 10000
set_option maxHeartbeats 4000000
/-! K03Q: steps_from. -/
namespace M
open PySem PySem.Spec PyProof.Rows L2 C8
/-- one step over the edge: where it begins at `here` -/
def stepOf (here : Int) (e : Int) (p : Int × Int) (s : Int) : Option ((Int × Int) × Int) := if (stepP s p).1 = here then some ((e, s), (stepP s p).2) else none
def stepsAt (ps : List (Int × Int)) (ss : List (List Int)) (here : Int) (e : Int) : List ((Int × Int) × Int) := (ss.getD e.toNat []).filterMap (stepOf here e (ps.getD e.toNat (0, 0)))
def stepsG (ps : List (Int × Int)) (ss : List (List Int)) (here : Int) : List ((Int × Int) × Int) := (atG 0 ps here).flatMap (stepsAt ps ss here)
def itemD (x : (Int × Int) × Int) : D := .tup [pairD x.1, .int x.2]
def signD (l : List Int) : D := .tup (l.map D.int)
theorem flat_len {α β : Type} {f : α → List β} {c : Nat} (h : ∀ x, (f x).length ≤ c) : ∀ l : List α, (l.flatMap f).length ≤ c * l.length
  | [] => Nat.le_refl _
  | x :: l => by
    rw [List.flatMap_cons, List.length_append, List.length_cons, Nat.mul_succ]
    have := flat_len h l
    have := h x
    omega
theorem stepsAt_len {ps : List (Int × Int)} {ss : List (List Int)} (h : ∀ l ∈ ss, l.length ≤ 2) (here e : Int) : (stepsAt ps ss here e).length ≤ 2 := by
  refine Nat.le_trans (List.length_filterMap_le _ _) ?_
  rw [List.getD_eq_getElem?_getD]
  cases q : ss[e.toNat]? with
  | none => exact Nat.zero_le _
  | some l => exact h l (List.mem_of_getElem? q)
section
variable {Γ : Tb}
def stepsF : Fn := ⟨[.sh, .sh, .bo], fun ds Q _ => ∃ (n : Nat) (ps : List (Int × Int)) (v : Nat) (ss : List (List Int)), ds = [graphD n ps, .int v, .lst (ss.map signD)] ∧ v < n ∧ ss.length = ps.length ∧ (∀ l ∈ ss, l.length ≤ 2) ∧ 2 * ps.length + 2 < line ∧
  Q (.fr ((stepsG ps ss v).map itemD)) []⟩
theorem p_steps (he : Γ.m "Graph" "edges_at" = some edgesAtF) (hs : Γ.f "step_ends" = some stepEndsF) : ∀ ds Q X, stepsF.sp ds Q X → dDef Γ [.sh, .sh, .bo] 5 b_steps_from ds Q X := by
  rintro ds Q X ⟨n, ps, v, ss, rfl, hv, hss, h2, hl, q⟩
  have l0 := lk0 (n := n) (ps := ps) (m := "edges_at") (by decide +kernel) (by decide +kernel) (by decide +kernel)
  have al := atG_len (v : Int) 0 ps
  refine ⟨by decide, rfl, l0, by rw [he] <;> rfl, ?_⟩
  conv => whnf
  rw [he]
  refine ⟨List.nodup_nil, fun _ h => (by cases h), n, ps, v, rfl, hv, ?_⟩
  generalize hes : atG 0 ps (v : Int) = es at al
  have hget : ∀ i ∈ es, ∃ j : Nat, j < ps.length ∧ i = (j : Int) := fun i hi => by
    rw [← hes] at hi
    obtain ⟨j, hj, e⟩ := atG_get (ps := ps) hi
    exact ⟨j, hj, by rw [e, Nat.zero_add]⟩
  refine ⟨fun k ρ => ∃ s4 s5 s6 s7, ρ = [.sh (graphD n ps), .sh (.int v), .bo (ss.map signD), .ow (((es.take k).flatMap (stepsAt ps ss v)).map itemD), s4, s5, s6, s7] ∧ isIo (some s4) = false ∧ isIo (some s5) = false ∧ isIo (some s6) = false ∧ isIo (some s7) = false, ⟨.top, .top, .top, .top, rfl, rfl, rfl, rfl, rfl⟩, ?_, ?_⟩
  · rintro k ρ d hd ⟨s4, s5, s6, s7, rfl, i4, i5, i6, i7⟩
    rw [List.getElem?_map] at hd
    obtain ⟨e, hee, rfl⟩ := Option.map_eq_some_iff.mp hd
    have hk := (List.getElem?_eq_some_iff.mp hee).1
    obtain ⟨j, hj, rfl⟩ := hget e (List.mem_of_getElem? hee)
    have hjs : j < ss.length := by omega
    have hp : ps[j]? = some ps[j] := List.getElem?_eq_getElem hj
    have hs' : ss[j]? = some ss[j] := List.getElem?_eq_getElem hjs
    have hat : dIx (.lst (ss.map signD)) (.int (j : Int)) = some (signD ss[j]) := lst_at (by rw [List.getElem?_map, hs'] <;> rfl)
    have hst : stepsAt ps ss v (j : Int) = (ss[j]).filterMap (stepOf v j ps[j]) := by
      unfold stepsAt
      rw [Int.toNat_natCast, List.getD_eq_getElem?_getD, List.getD_eq_getElem?_getD, hs', hp] <;> rfl
    have hsn : (es.take (k + 1)).flatMap (stepsAt ps ss v) = (es.take k).flatMap (stepsAt ps ss v) ++ (ss[j]).filterMap (stepOf v j ps[j]) := by
      rw [List.take_succ_eq_append_getElem hk, (List.getElem?_eq_some_iff.mp hee).2, List.flatMap_append, List.flatMap_singleton, hst]
    have fl := flat_len (stepsAt_len (ps := ps) h2 (v : Int)) (es.take k)
    rw [List.length_take] at fl
    have s2 := h2 ss[j] (List.getElem_mem hjs)
    generalize hfo : (es.take k).flatMap (stepsAt ps ss v) = fo at hsn fl
    generalize hsg : ss[j] = sg at *
    refine ⟨i4, w1_at hat ?_⟩
    refine ⟨fun m ρ => ∃ s5 s6 s7, ρ = [.sh (graphD n ps), .sh (.int v), .bo (ss.map signD), .ow ((fo ++ (sg.take m).filterMap (stepOf v j ps[j])).map itemD), .sh (.int j), s5, s6, s7] ∧ isIo (some s5) = false ∧ isIo (some s6) = false ∧ isIo (some s7) = false, ⟨s5, s6, s7, by rw [List.take_zero, List.filterMap_nil, List.append_nil] <;> rfl, i5, i6, i7⟩, ?_, ?_⟩
    · rintro m ρ d hd ⟨s5, s6, s7, rfl, i5, i6, i7⟩
      rw [List.getElem?_map] at hd
      obtain ⟨g, hg, rfl⟩ := Option.map_eq_some_iff.mp hd
      have hm := (List.getElem?_eq_some_iff.mp hg).1
      have hsm : sg.take (m + 1) = sg.take m ++ [g] := by
        rw [List.take_succ_eq_append_getElem hm, (List.getElem?_eq_some_iff.mp hg).2]
      refine ⟨i5, (show 2 ≤ line by decide), ?_⟩
      conv => whnf
      rw [hs]
      refine ⟨List.nodup_nil, fun _ h => (by cases h), n, ps, j, g, ps[j], rfl, hp, ?_⟩
      refine ⟨i6, i7, rfl, ?_⟩
      have hacc : ((fo ++ (sg.take m).filterMap (stepOf v j ps[j])).map itemD).length < line := by
        rw [List.length_map, List.length_append]
        have := List.length_filterMap_le (stepOf v j ps[j]) (sg.take m)
        rw [List.length_take] at this
        omega
      by_cases hq : (stepP g ps[j]).1 = (v : Int)
      · refine ite_t (decide_eq_true hq) ?_
        have this : stepOf v j ps[j] g = some (((j : Int), g), (stepP g ps[j]).2) := if_pos hq
        have e2 : (fo ++ (sg.take (m + 1)).filterMap (stepOf v j ps[j])).map itemD = (fo ++ (sg.take m).filterMap (stepOf v j ps[j])).map itemD ++ [itemD (((j : Int), g), (stepP g ps[j]).2)] := by
          rw [hsm, List.filterMap_append, List.filterMap_cons, this, List.filterMap_nil, ← List.append_assoc, List.map_append] <;> rfl
        refine ⟨rfl, (show 2 ≤ line by decide), (show 2 ≤ line by decide), hacc, .sh (.int g), .sh (.int (stepP g ps[j]).1), .sh (.int (stepP g ps[j]).2), ?_, rfl, rfl, rfl⟩
        rw [e2] <;> rfl
      · refine ite_f (show ¬ decide ((stepP g ps[j]).1 = (v : Int)) = true by simp [hq]) ?_
        refine ⟨.sh (.int g), .sh (.int (stepP g ps[j]).1), .sh (.int (stepP g ps[j]).2), ?_, rfl, rfl, rfl⟩
        have : stepOf v j ps[j] g = none := if_neg hq
        rw [hsm, List.filterMap_append, List.filterMap_cons, this, List.filterMap_nil, List.append_nil] <;> rfl
    · rintro ρ ⟨s5, s6, s7, rfl, i5, i6, i7⟩
      rw [List.length_map, List.take_length]
      refine ⟨.sh (.int j), s5, s6, s7, ?_, rfl, i5, i6, i7⟩
      rw [hsn]
  · rintro ρ ⟨s4, s5, s6, s7, rfl, i4, i5, i6, i7⟩
    rw [List.length_map, List.take_length]
    refine ⟨_, _, rfl, rfl, ?_⟩
    unfold stepsG at q
    rw [hes] at q
    exact q
end
end M
set_option linter.all false
set_option Elab.async false
set_option maxRecDepth 10000
set_option maxHeartbeats 4000000
/-! K03R: reached. -/
namespace M
open PySem PySem.Spec PyProof.Rows L2 C8
inductive Reach (ps : List (Int × Int)) (ss : List (List Int)) (a : Nat) : Nat → Prop where
  | refl : Reach ps ss a a
  | step {u v : Nat} {x : (Int × Int) × Int} : Reach ps ss a u → x ∈ stepsG ps ss u → x.2 = (v : Int) → Reach ps ss a v
def unseen (n : Nat) (es : List Nat) : List Nat := (List.range n).filter fun v => decide (v ∉ es)
theorem unseen_add {n v : Nat} {es : List Nat} (hv : v < n) (h : v ∉ es) : (unseen n (es ++ [v])).length + 1 = (unseen n es).length := by
  have nd : (unseen n es).Nodup := List.Pairwise.filter _ List.nodup_range
  have e : unseen n (es ++ [v]) = (unseen n es).erase v := by
    rw [nd.erase_eq_filter]
    unfold unseen
    rw [List.filter_filter]
    congr 1
    funext x
    rw [Bool.eq_iff_iff]
    simp only [List.mem_append, List.mem_singleton, not_or, decide_eq_true_eq, Bool.and_eq_true, bne_iff_ne]
    exact ⟨fun z => ⟨z.2, z.1⟩, fun z => ⟨z.2, z.1⟩⟩
  have m : v ∈ unseen n es := List.mem_filter.mpr ⟨List.mem_range.mpr hv, decide_eq_true h⟩
  rw [e, List.length_erase_of_mem m]
  have := List.length_pos_of_mem m
  omega
theorem steps_lt {n : Nat} {ps : List (Int × Int)} {ss : List (List Int)} {u : Nat} {x : (Int × Int) × Int} (ok : okG n ps) (h : x ∈ stepsG ps ss u) : ∃ v : Nat, x.2 = (v : Int) ∧ v < n := by
  obtain ⟨e, he, hx⟩ := List.mem_flatMap.mp h
  obtain ⟨j, hj, rfl⟩ := atG_get (ps := ps) he
  unfold stepsAt at hx
  obtain ⟨s, _, hs⟩ := List.mem_filterMap.mp hx
  rw [Nat.zero_add, Int.toNat_natCast, List.getD_eq_getElem?_getD, List.getElem?_eq_getElem hj] at hs
  unfold stepOf at hs
  split at hs
  · cases hs
    have o := ok ps[j] (List.getElem_mem hj)
    have : ∃ i : Int, 0 ≤ i ∧ i < n ∧ (stepP s ps[j]).2 = i := by
      unfold stepP
      split
      · exact ⟨_, o.2.2.1, o.2.2.2, rfl⟩
      · exact ⟨_, o.1, o.2.1, rfl⟩
    obtain ⟨i, i0, i1, ei⟩ := this
    exact ⟨i.toNat, by rw [Int.toNat_of_nonneg i0]; exact ei, by omega⟩
  · cases hs
/-- what holds between the rounds -/
structure Rin (n : Nat) (ps : List (Int × Int)) (ss : List (List Int)) (a : Nat) (es ws : List Nat) : Prop where
  lt : ∀ e ∈ es, e < n
  cnt : es.length + (unseen n es).length = n
  sub : ∀ v ∈ ws, v ∈ es
  len : ws.length ≤ es.length
  st : a ∈ es
  rc : ∀ e ∈ es, Reach ps ss a e
section
variable {Γ : Tb}
def reachedF : Fn := ⟨[.sh, .sh, .bo], fun ds Q _ => ∃ (n : Nat) (ps : List (Int × Int)) (a : Nat) (ss : List (List Int)), ds = [graphD n ps, .int a, .lst (ss.map signD)] ∧ a < n ∧ okG n ps ∧ n < line ∧ ss.length = ps.length ∧ (∀ l ∈ ss, l.length ≤ 2) ∧ 2 * ps.length + 2 < line ∧
  ∀ es : List Nat, (∀ e ∈ es, e < n) → (∀ v, v ∈ es ↔ Reach ps ss a v) → Q (.fr (markD n es)) []⟩
theorem p_reached (hv : Γ.p "Graph" "vertices" = some verticesF) (hs : Γ.f "steps_from" = some stepsF) : ∀ ds Q X, reachedF.sp ds Q X → dDef Γ [.sh, .sh, .bo] 5 b_reached ds Q X := by
  rintro ds Q X ⟨n, ps, a, ss, rfl, ha, ok, hn, hss, h2, hl, q⟩
  have hb : line < 2 ^ 62 := by decide
  refine ⟨by decide, ?_⟩
  conv => whnf
  rw [hv]
  refine ⟨List.nodup_nil, fun _ h => (by cases h), n, ps, rfl, ?_⟩
  refine ⟨⟨by omega, by omega⟩, by simp; omega, ?_⟩
  refine ⟨rfl, ?_⟩
  rw [Int.toNat_natCast, markD_nil]
  have ixk : ∀ (es : List Nat) (v : Nat), v < n → L2.ixN (markD n es).length ((v : Nat) : Int) = some v := fun es v h => by
    rw [markD_len]
    unfold L2.ixN
    rw [if_pos (by omega), if_pos (by omega), Int.toNat_natCast]
  refine w1_at (ixk [] a ha) ?_
  rw [markD_set ha]
  refine ⟨(show 1 ≤ line by decide), rfl, ?_⟩
  refine ⟨fun m ρ => ∃ (es ws : List Nat) (s5 s6 s7 : Sl), ρ = [.sh (graphD n ps), .sh (.int a), .bo (ss.map signD), .ow (markD n es), .ow (ws.map natD), s5, s6, s7] ∧ isIo (some s5) = false ∧ isIo (some s6) = false ∧ isIo (some s7) = false ∧
    m = 2 * (unseen n es).length + ws.length ∧ Rin n ps ss a es ws ∧ ∀ e ∈ es, e ∉ ws → ∀ x ∈ stepsG ps ss e, ∃ v ∈ es, x.2 = ((v : Nat) : Int), ⟨_, [a], [a], .top, .top, .top, rfl, rfl, rfl, rfl, rfl, ?_, ?_⟩, ?_⟩
  · refine ⟨fun e h => ?_, ?_, fun v h => h, Nat.le_refl _, List.mem_singleton.mpr rfl, fun e h => ?_⟩
    · rw [List.mem_singleton.mp h]
      exact ha
    · have u0 := unseen_add (es := []) ha (by simp)
      have : (unseen n []).length = n := by
        unfold unseen
        rw [List.filter_eq_self.mpr (by simp), List.length_range]
      rw [List.nil_append] at u0
      simp only [List.length_singleton]
      omega
    · rw [List.mem_singleton.mp h]
      exact .refl
  · intro e h1 h2
    exact absurd h1 h2
  · rintro m ρ ⟨es, ws, s5, s6, s7, rfl, i5, i6, i7, hm, R, cl⟩
    rcases List.eq_nil_or_concat ws with rfl | ⟨ws', w, rfl⟩
    · refine ⟨_, _, rfl, rfl, q es R.lt fun v => ⟨R.rc v, fun h => ?_⟩⟩
      induction h with
      | refl => exact R.st
      | step h1 h2 h3 ih =>
        obtain ⟨v', m', e'⟩ := cl _ ih (by simp) _ h2
        rw [h3] at e'
        rw [Int.ofNat_inj.mp e']
        exact m'
    · rw [List.concat_eq_append] at *
      refine ite_t (show (!((ws' ++ [w]).map natD).isEmpty) = true from by simp) ?_
      have hw : w ∈ es := R.sub w (by simp)
      have gl : ((ws' ++ [w]).map natD).getLast? = some (natD w) := by
        rw [List.map_append, List.map_singleton, List.getLast?_concat]
      have dl : ((ws' ++ [w]).map natD).dropLast = ws'.map natD := by
        rw [List.map_append, List.map_singleton, List.dropLast_concat]
      refine w1_at gl ?_
      rw [dl]
      refine ⟨i5, ?_⟩
      conv => whnf
      rw [hs]
      refine ⟨List.nodup_nil, fun _ h => (by cases h), n, ps, w, ss, rfl, R.lt w hw, hss, h2, hl, ?_⟩
      generalize hst : stepsG ps ss (w : Int) = st
      refine ⟨fun k ρ => ∃ (es' ws'' : List Nat) (s6 s7 : Sl), ρ = [.sh (graphD n ps), .sh (.int a), .bo (ss.map signD), .ow (markD n es'), .ow (ws''.map natD), .sh (.int w), s6, s7] ∧ isIo (some s6) = false ∧ isIo (some s7) = false ∧
        2 * (unseen n es').length + ws''.length ≤ 2 * (unseen n es).length + ws'.length ∧ Rin n ps ss a es' ws'' ∧ (∀ v ∈ es, v ∈ es') ∧ (∀ e ∈ es', e ∉ ws'' → e ≠ w → ∀ x ∈ stepsG ps ss e, ∃ v ∈ es', x.2 = ((v : Nat) : Int)) ∧ ∀ x ∈ st.take k, ∃ v ∈ es', x.2 = ((v : Nat) : Int),
        ⟨es, ws', s6, s7, rfl, i6, i7, Nat.le_refl _, ⟨R.lt, R.cnt, fun v h => R.sub v (List.mem_append_left _ h), ?_, R.st, R.rc⟩, fun v h => h, fun e h1 h2 h3 => cl e h1 (by simp [h2, h3]), fun x h => (by cases h)⟩, ?_, ?_⟩
      · have := R.len
        rw [List.length_append] at this
        omega
      · rintro k ρ d hd ⟨es', ws'', s6, s7, rfl, i6, i7, hm', R', hsub, cl', done⟩
        rw [List.getElem?_map] at hd
        obtain ⟨x, hx, rfl⟩ := Option.map_eq_some_iff.mp hd
        have hk := (List.getElem?_eq_some_iff.mp hx).1
        have hmem : x ∈ stepsG ps ss (w : Int) := by
          rw [hst]
          exact List.mem_of_getElem? hx
        obtain ⟨v, hv1, hv2⟩ := steps_lt ok hmem
        have hsn : st.take (k + 1) = st.take k ++ [x] := by
          rw [List.take_succ_eq_append_getElem hk, (List.getElem?_eq_some_iff.mp hx).2]
        obtain ⟨y, z⟩ := x
        have hv1 : z = (v : Int) := hv1
        subst hv1
        refine ⟨i6, i7, rfl, ?_⟩
        refine w1_at (lst_at (markD_get (es := es') hv2)) ?_
        by_cases hin : v ∈ es'
        · refine ite_f (show ¬ (!decide (v ∈ es')) = true from by simp [hin]) ?_
          refine ⟨es', ws'', _, _, rfl, rfl, rfl, hm', R', hsub, cl', fun x' h => ?_⟩
          rw [hsn, List.mem_append] at h
          rcases h with h | h
          · exact done x' h
          · rw [List.mem_singleton.mp h]
            exact ⟨v, hin, rfl⟩
        · refine ite_t (show (!decide (v ∈ es')) = true from by simp [hin]) ?_
          have ua := unseen_add hv2 hin
          have wl : (ws''.map natD).length < line := by
            rw [List.length_map]
            have := R'.len
            have := R'.cnt
            omega
          refine w1_at (ixk es' v hv2) ?_
          rw [markD_set hv2]
          refine ⟨rfl, wl, es' ++ [v], ws'' ++ [v], .sh (pairD y), .sh (.int v), by rw [List.map_append] <;> rfl, rfl, rfl, ?_, ⟨fun e h => ?_, ?_, fun e h => ?_, ?_, List.mem_append_left _ R'.st, fun e h => ?_⟩, fun e h => List.mem_append_left _ (hsub e h), fun e h1 h2 h3 x' h4 => ?_, fun x' h => ?_⟩
          · rw [List.length_append, List.length_singleton]
            omega
          · rcases List.mem_append.mp h with h | h
            · exact R'.lt e h
            · rw [List.mem_singleton.mp h]
              exact hv2
          · rw [List.length_append, List.length_singleton]
            have := R'.cnt
            omega
          · rcases List.mem_append.mp h with h | h
            · exact List.mem_append_left _ (R'.sub e h)
            · exact List.mem_append_right _ h
          · rw [List.length_append, List.length_append]
            have := R'.len
            omega
          · rcases List.mem_append.mp h with h | h
            · exact R'.rc e h
            · rw [List.mem_singleton.mp h]
              exact .step (R.rc w hw) hmem rfl
          · rw [List.mem_append, not_or] at h2
            rcases List.mem_append.mp h1 with h | h
            · obtain ⟨u, hu, eu⟩ := cl' e h h2.1 h3 x' h4
              exact ⟨u, List.mem_append_left _ hu, eu⟩
            · exact absurd h h2.2
          · rw [hsn, List.mem_append] at h
            rcases h with h | h
            · obtain ⟨u, hu, eu⟩ := done x' h
              exact ⟨u, List.mem_append_left _ hu, eu⟩
            · rw [List.mem_singleton.mp h]
              exact ⟨v, List.mem_append_right _ (List.mem_singleton.mpr rfl), rfl⟩
      · rintro ρ ⟨es', ws'', s6, s7, rfl, i6, i7, hm', R', hsub, cl', done⟩
        rw [List.length_map, List.take_length] at done
        refine ⟨2 * (unseen n es').length + ws''.length, ?_, es', ws'', .sh (.int w), s6, s7, rfl, rfl, i6, i7, rfl, R', fun e h1 h2 x h3 => ?_⟩
        · rw [hm, List.length_append, List.length_singleton]
          omega
        · by_cases ew : e = w
          · subst ew
            rw [hst] at h3
            exact done x h3
          · exact cl' e h1 h2 ew x h3
end
end M
set_option linter.all false
set_option Elab.async false
set_option maxRecDepth 10000
set_option maxHeartbeats 4000000
/-! K03S: marked_vertices. -/
namespace M
open PySem PySem.Spec PyProof.Rows L2 C8
section
variable {Γ : Tb}
def markedVF : Fn := ⟨[.sh, .bo], fun ds Q _ => ∃ (n : Nat) (ps : List (Int × Int)) (es : List Nat), ds = [graphD n ps, .lst (es.map natD)] ∧ (∀ e ∈ es, e < n) ∧ n < line ∧ Q (.fr (markD n es)) []⟩
theorem p_marked_vertices (hv : Γ.p "Graph" "vertices" = some verticesF) (hc : Γ.f "check_vertex" = some checkF) : ∀ ds Q X, markedVF.sp ds Q X → dDef Γ [.sh, .bo] 2 b_marked_vertices ds Q X := by
  rintro ds Q X ⟨n, ps, es, rfl, hes, hl, q⟩
  have hb : line < 2 ^ 62 := by decide
  refine ⟨by decide, ?_⟩
  conv => whnf
  rw [hv]
  refine ⟨List.nodup_nil, fun _ h => (by cases h), n, ps, rfl, ?_⟩
  refine ⟨⟨by omega, by omega⟩, by simp; omega, ?_⟩
  refine ⟨rfl, ?_⟩
  rw [Int.toNat_natCast, markD_nil]
  refine ⟨fun k ρ => ∃ s, ρ = [.sh (graphD n ps), .bo (es.map natD), .ow (markD n (es.take k)), s] ∧ isIo (some s) = false, ⟨_, rfl, rfl⟩, ?_, ?_⟩
  · rintro k ρ d hd ⟨s, rfl, hs⟩
    rw [List.getElem?_map] at hd
    obtain ⟨e, he, rfl⟩ := Option.map_eq_some_iff.mp hd
    have lt := hes e (List.mem_of_getElem? he)
    refine ⟨hs, ?_⟩
    conv => whnf
    rw [hc]
    refine ⟨List.nodup_nil, fun _ h => (by cases h), n, ps, e, rfl, lt, ?_⟩
    have ei : L2.ixN (markD n (es.take k)).length ((e : Nat) : Int) = some e := by
      rw [markD_len]
      unfold L2.ixN
      rw [if_pos (by omega), if_pos (by omega), Int.toNat_natCast]
    refine w1_at ei ?_
    have : es.take (k + 1) = es.take k ++ [e] := by
      have hk := (List.getElem?_eq_some_iff.mp he).1
      rw [List.take_succ_eq_append_getElem hk, (List.getElem?_eq_some_iff.mp he).2]
    refine ⟨.sh (.int e), ?_, rfl⟩
    rw [this, ← markD_set lt]
    rfl
  · rintro ρ ⟨s, rfl, _⟩
    refine ⟨_, _, rfl, rfl, ?_⟩
    rw [List.length_map, List.take_length]
    exact q
end
end M
set_option linter.all false
set_option Elab.async false
set_option maxRecDepth 10000
set_option maxHeartbeats 4000000
/-! K03T: component_of. -/
namespace M
open PySem PySem.Spec PyProof.Rows L2 C8
/-- marks as bools -/
def markB (n : Nat) (es : List Nat) : List Bool := (List.range n).map fun e => decide (e ∈ es)
theorem markB_D (n : Nat) (es : List Nat) : (markB n es).map D.bl = markD n es := by
  unfold markB markD
  rw [List.map_map] <;> rfl
def allB (m : Nat) : List Bool := List.replicate m true
theorem allB_D (m : Nat) : (List.replicate m [D.bl true]).flatten = (allB m).map D.bl := by
  unfold allB
  rw [List.map_replicate]
  induction m with
  | zero => rfl
  | succ m ih => rw [List.replicate_succ, List.flatten_cons, ih] <;> rfl
def waysL (b : Bool) : List Int := if b = true then [1, -1] else []
theorem ways_D (bs : List Bool) : bs.map waysD = (bs.map waysL).map signD := by
  rw [List.map_map]
  refine List.map_congr_left fun b _ => ?_
  cases b <;> rfl
section
variable {Γ : Tb}
structure CutP (Γ : Tb) : Prop extends ClsG Γ where
  bw : Γ.f "both_ways" = some bothWaysF
  rch : Γ.f "reached" = some reachedF
  plc : Γ.f "places" = some placesF
structure CutG (Γ : Tb) : Prop extends CutP Γ where
  chk : Γ.f "check_vertex" = some checkF
def compF : Fn := ⟨[.sh, .sh], fun ds Q _ => ∃ (n : Nat) (ps : List (Int × Int)) (v : Nat), ds = [graphD n ps, .int v] ∧ v < n ∧ okG n ps ∧ n < line ∧ 2 * ps.length + 2 < line ∧
  ∀ es : List Nat, (∀ e ∈ es, e < n) → (∀ u, u ∈ es ↔ Reach ps ((allB ps.length).map waysL) v u) → Q (.fr ((placesG 0 (markB n es)).map natD)) []⟩
theorem p_component_of (hf : CutG Γ) : ∀ ds Q X, compF.sp ds Q X → dDef Γ [.sh, .sh] 0 b_component_of ds Q X := by
  rintro ds Q X ⟨n, ps, v, rfl, hv, ok, hn, hl, q⟩
  have hb : line < 2 ^ 62 := by decide
  have l2 := lk2 (n := n) (ps := ps)
  conv => whnf
  rw [hf.chk]
  refine ⟨List.nodup_nil, fun _ h => (by cases h), n, ps, v, rfl, hv, ?_⟩
  refine ⟨(show 1 ≤ line by decide), ?_⟩
  conv => whnf
  rw [hf.it]
  refine ⟨⟨by rw [List.length_map]; omega, by rw [List.length_map]; omega⟩, by rw [List.length_map]; simp; omega, ?_⟩
  rw [List.length_map, Int.toNat_natCast, allB_D]
  conv => whnf
  rw [hf.bw]
  have al : (allB ps.length).length = ps.length := List.length_replicate
  refine ⟨List.nodup_nil, fun _ h => (by cases h), allB ps.length, rfl, by rw [al]; omega, ?_⟩
  rw [ways_D]
  conv => whnf
  rw [hf.rch]
  refine ⟨List.nodup_nil, fun _ h => (by cases h), n, ps, v, (allB ps.length).map waysL, rfl, hv, ok, hn, by rw [List.length_map, al], fun l h => ?_, hl, fun es e1 e2 => ?_⟩
  · obtain ⟨b, _, rfl⟩ := List.mem_map.mp h
    cases b <;> decide
  conv => whnf
  rw [hf.plc]
  refine ⟨List.nodup_nil, fun _ h => (by cases h), markB n es, ?_, ?_, ?_⟩
  · rw [markB_D]
  · unfold markB
    rw [List.length_map, List.length_range]
    exact hn
  · exact ⟨_, _, rfl, rfl, q es e1 e2⟩
end
end M
set_option linter.all false
set_option Elab.async false
set_option maxRecDepth 10000
set_option maxHeartbeats 4000000
/-! K03U: parts_of. -/
namespace M
open PySem PySem.Spec PyProof.Rows L2 C8
theorem Reach.trans {ps : List (Int × Int)} {ss : List (List Int)} {a b c : Nat} (h1 : Reach ps ss a b) (h2 : Reach ps ss b c) : Reach ps ss a c := by
  induction h2 with
  | refl => exact h1
  | step _ x y ih => exact .step ih x y
noncomputable def decB (p : Prop) : Bool := @decide p (Classical.propDecidable p)
theorem decB_iff {p : Prop} : decB p = true ↔ p := @decide_eq_true_iff p (Classical.propDecidable p)
noncomputable def reachL (n : Nat) (ps : List (Int × Int)) (ss : List (List Int)) (v : Nat) : List Nat := (List.range n).filter fun u => decB (Reach ps ss v u)
noncomputable def rowG (n : Nat) (ps : List (Int × Int)) (ss : List (List Int)) (v : Nat) : List Nat := placesG 0 (markB n (reachL n ps ss v))
def Root (ps : List (Int × Int)) (ss : List (List Int)) (v : Nat) : Prop := ¬ ∃ r, r < v ∧ Reach ps ss r v
noncomputable def partsG (n : Nat) (ps : List (Int × Int)) (ss : List (List Int)) (k : Nat) : List (List Nat) := ((List.range k).filter fun v => decB (Root ps ss v)).map (rowG n ps ss)
def rowD (r : List Nat) : D := .lst (r.map natD)
theorem markB_congr {n : Nat} {es fs : List Nat} (h : ∀ u, u < n → (u ∈ es ↔ u ∈ fs)) : markB n es = markB n fs := by
  unfold markB
  refine List.map_congr_left fun u hu => ?_
  exact decide_eq_decide.mpr (h u (List.mem_range.mp hu))
theorem markD_congr {n : Nat} {es fs : List Nat} (h : ∀ u, u < n → (u ∈ es ↔ u ∈ fs)) : markD n es = markD n fs := by
  rw [← markB_D, ← markB_D, markB_congr h]
theorem parts_snoc {n k : Nat} {ps : List (Int × Int)} {ss : List (List Int)} : partsG n ps ss (k + 1) = partsG n ps ss k ++ (if decB (Root ps ss k) = true then [rowG n ps ss k] else []) := by
  unfold partsG
  rw [List.range_succ, List.filter_append, List.map_append, List.filter_cons]
  split <;> rfl
theorem parts_len {n k : Nat} {ps : List (Int × Int)} {ss : List (List Int)} : (partsG n ps ss k).length ≤ k := by
  unfold partsG
  rw [List.length_map]
  have := List.length_filter_le (fun v => decB (Root ps ss v)) (List.range k)
  rw [List.length_range] at this
  exact this
theorem places_mem {u : Nat} : ∀ {k : Nat} {bs : List Bool}, u ∈ placesG k bs ↔ ∃ j, u = k + j ∧ bs[j]? = some true
  | k, [] => by simp [placesG]
  | k, b :: bs => by
    rw [placesG, List.mem_append, places_mem (k := k + 1) (bs := bs)]
    constructor
    · rintro (h | ⟨j, rfl, h⟩)
      · split at h
        · rename_i hb
          rw [List.mem_singleton.mp h]
          exact ⟨0, rfl, by rw [List.getElem?_cons_zero, hb]⟩
        · cases h
      · exact ⟨j + 1, by omega, by rw [List.getElem?_cons_succ]; exact h⟩
    · rintro ⟨j, rfl, h⟩
      cases j with
      | zero =>
        rw [List.getElem?_cons_zero] at h
        cases h
        exact .inl (by simp)
      | succ j => exact .inr ⟨j, by omega, by rw [List.getElem?_cons_succ] at h; exact h⟩
theorem row_mem {n v u : Nat} {ps : List (Int × Int)} {ss : List (List Int)} : u ∈ rowG n ps ss v ↔ u < n ∧ Reach ps ss v u := by
  unfold rowG
  rw [places_mem]
  unfold markB
  constructor
  · rintro ⟨j, rfl, h⟩
    rw [List.getElem?_map] at h
    obtain ⟨x, hx, e⟩ := Option.map_eq_some_iff.mp h
    obtain ⟨hl, rfl⟩ := List.getElem?_eq_some_iff.mp hx
    rw [List.getElem_range] at e
    rw [Nat.zero_add]
    obtain ⟨m1, m2⟩ := List.mem_filter.mp (of_decide_eq_true e)
    exact ⟨List.mem_range.mp m1, decB_iff.mp m2⟩
  · rintro ⟨h1, h2⟩
    refine ⟨u, by omega, ?_⟩
    rw [List.getElem?_map, List.getElem?_range h1]
    refine congrArg some (decide_eq_true ?_)
    exact List.mem_filter.mpr ⟨List.mem_range.mpr h1, decB_iff.mpr h2⟩
end M
set_option linter.all false
set_option Elab.async false
set_option maxRecDepth 10000
set_option maxHeartbeats 4000000
/-! K03V: parts_of. -/
namespace M
open PySem PySem.Spec PyProof.Rows L2 C8
section
variable {Γ : Tb}
def partsF : Fn := ⟨[.sh, .bo], fun ds Q _ => ∃ (n : Nat) (ps : List (Int × Int)) (bs : List Bool), ds = [graphD n ps, .lst (bs.map D.bl)] ∧ bs.length = ps.length ∧ okG n ps ∧ n < line ∧ 2 * ps.length + 2 < line ∧
  Q (.fr ((partsG n ps (bs.map waysL) n).map rowD)) []⟩
theorem p_parts_of (hv : Γ.p "Graph" "vertices" = some verticesF) (hf : CutP Γ) : ∀ ds Q X, partsF.sp ds Q X → dDef Γ [.sh, .bo] 6 b_parts_of ds Q X := by
  rintro ds Q X ⟨n, ps, bs, rfl, hbs, ok, hn, hl, q⟩
  have hb : line < 2 ^ 62 := by decide
  conv => whnf
  rw [hf.bw]
  refine ⟨List.nodup_nil, fun _ h => (by cases h), bs, rfl, by omega, ?_⟩
  rw [ways_D]
  generalize hss : bs.map waysL = ss at q
  have hsl : ss.length = ps.length := by rw [← hss, List.length_map, hbs]
  have hs2 : ∀ l ∈ ss, l.length ≤ 2 := fun l h => by
    rw [← hss] at h
    obtain ⟨b, _, rfl⟩ := List.mem_map.mp h
    cases b <;> decide
  refine ⟨rfl, (show 1 ≤ line by decide), ?_⟩
  conv => whnf
  rw [hv]
  refine ⟨List.nodup_nil, fun _ h => (by cases h), n, ps, rfl, ?_⟩
  refine ⟨⟨by omega, by omega⟩, by simp; omega, ?_⟩
  refine ⟨rfl, ?_⟩
  rw [Int.toNat_natCast, markD_nil]
  refine ⟨by decide, rfl, ?_⟩
  conv => whnf
  rw [hv]
  refine ⟨List.nodup_nil, fun _ h => (by cases h), n, ps, rfl, ?_⟩
  refine ⟨⟨by omega, by omega⟩, fun k ρ => ∃ (es : List Nat) (s5 s6 s7 : Sl), ρ = [.sh (graphD n ps), .bo (bs.map D.bl), .ow (ss.map signD), .ow (markD n es), .ow ((partsG n ps ss k).map rowD), s5, s6, s7] ∧ isIo (some s5) = false ∧ isIo (some s6) = false ∧ isIo (some s7) = false ∧
    ∀ u, u < n → (u ∈ es ↔ ∃ r, r < k ∧ Reach ps ss r u), ⟨[], .top, .top, .top, rfl, rfl, rfl, rfl, fun u _ => ⟨fun h => (by cases h), fun ⟨r, h, _⟩ => absurd h (Nat.not_lt_zero r)⟩⟩, ?_, ?_⟩
  · rintro k ρ d hd ⟨es, s5, s6, s7, rfl, i5, i6, i7, hm⟩
    obtain ⟨hkr, e0⟩ := getR hd
    rw [Int.zero_add] at e0
    subst e0
    have hk : k < n := by omega
    refine ⟨i5, ?_⟩
    refine w1_at (lst_at (markD_get (es := es) hk)) ?_
    have pl := parts_len (n := n) (k := k) (ps := ps) (ss := ss)
    by_cases hin : k ∈ es
    · refine ite_f (show ¬ (!decide (k ∈ es)) = true from by simp [hin]) ?_
      obtain ⟨r, hr, hrr⟩ := (hm k hk).mp hin
      have nr : ¬ decB (Root ps ss k) = true := fun z => decB_iff.mp z ⟨r, hr, hrr⟩
      refine ⟨es, _, s6, s7, by rw [parts_snoc, if_neg nr, List.append_nil] <;> rfl, rfl, i6, i7, fun u hu => (hm u hu).trans ⟨fun ⟨r', h1, h2⟩ => ⟨r', by omega, h2⟩, fun ⟨r', h1, h2⟩ => ?_⟩⟩
      by_cases e : r' = k
      · subst e
        exact ⟨r, hr, hrr.trans h2⟩
      · exact ⟨r', by omega, h2⟩
    · refine ite_t (show (!decide (k ∈ es)) = true from by simp [hin]) ?_
      have nr : decB (Root ps ss k) = true := decB_iff.mpr fun z => hin ((hm k hk).mpr z)
      conv => whnf
      rw [hf.rch]
      refine ⟨List.nodup_nil, fun _ h => (by cases h), n, ps, k, ss, rfl, hk, ok, hn, hsl, hs2, hl, fun fs f1 f2 => ?_⟩
      conv => whnf
      rw [hf.plc]
      have er : placesG 0 (markB n fs) = rowG n ps ss k := by
        unfold rowG
        rw [markB_congr fun u hu => (f2 u).trans ⟨fun h => List.mem_filter.mpr ⟨List.mem_range.mpr hu, decB_iff.mpr h⟩, fun h => decB_iff.mp (List.mem_filter.mp h).2⟩] <;> rfl
      have rl : (rowG n ps ss k).length ≤ n := by
        unfold rowG
        refine Nat.le_trans places_len ?_
        unfold markB
        rw [List.length_map, List.length_range]
        exact Nat.le_refl _
      refine ⟨List.nodup_nil, fun _ h => (by cases h), markB n fs, by rw [markB_D], by unfold markB; rw [List.length_map, List.length_range]; exact hn, ?_⟩
      rw [er]
      refine ⟨i6, ?_⟩
      refine ⟨fun m ρ => ∃ s7, ρ = [.sh (graphD n ps), .bo (bs.map D.bl), .ow (ss.map signD), .ow (markD n (es ++ (rowG n ps ss k).take m)), .ow ((partsG n ps ss k).map rowD), .sh (.int k), .sh (rowD (rowG n ps ss k)), s7] ∧ isIo (some s7) = false, ⟨s7, by rw [List.take_zero, List.append_nil] <;> rfl, i7⟩, ?_, ?_⟩
      · rintro m ρ d hd ⟨s7, rfl, i7⟩
        rw [List.getElem?_map] at hd
        obtain ⟨u, hu, rfl⟩ := Option.map_eq_some_iff.mp hd
        have ul := (row_mem.mp (List.mem_of_getElem? hu)).1
        have ei : L2.ixN (markD n (es ++ (rowG n ps ss k).take m)).length ((u : Nat) : Int) = some u := by
          rw [markD_len]
          unfold L2.ixN
          rw [if_pos (by omega), if_pos (by omega), Int.toNat_natCast]
        refine ⟨i7, w1_at ei ?_⟩
        have : (rowG n ps ss k).take (m + 1) = (rowG n ps ss k).take m ++ [u] := by
          have hk := (List.getElem?_eq_some_iff.mp hu).1
          rw [List.take_succ_eq_append_getElem hk, (List.getElem?_eq_some_iff.mp hu).2]
        refine ⟨.sh (.int u), ?_, rfl⟩
        rw [this, ← List.append_assoc, ← markD_set ul]
        rfl
      · rintro ρ ⟨s7, rfl, i7⟩
        rw [List.length_map, List.take_length]
        refine ⟨rfl, (show ((partsG n ps ss k).map rowD).length < line by rw [List.length_map]; omega), es ++ rowG n ps ss k, _, _, s7, by rw [parts_snoc, if_pos nr, List.map_append] <;> rfl, rfl, rfl, i7, fun u hu => ?_⟩
        rw [List.mem_append, hm u hu, row_mem]
        constructor
        · rintro (⟨r, h1, h2⟩ | ⟨_, h2⟩)
          · exact ⟨r, by omega, h2⟩
          · exact ⟨k, by omega, h2⟩
        · rintro ⟨r, h1, h2⟩
          by_cases e : r = k
          · subst e
            exact .inr ⟨hu, h2⟩
          · exact .inl ⟨r, by omega, h2⟩
  · rintro ρ ⟨es, s5, s6, s7, rfl, i5, i6, i7, hm⟩
    rw [rngD_len, show (((n : Nat) : Int) - 0).toNat = n by omega]
    exact ⟨_, _, rfl, rfl, q⟩
end
end M
set_option linter.all false
set_option Elab.async false
set_option maxRecDepth 10000
set_option maxHeartbeats 4000000
/-! K40R: the law's own reach. -/
namespace M
open PySem PySem.Spec PyProof.Rows L2 C8
/-- connected by the edges that are not barred -/
inductive Con (ps : List (Int × Int)) (bs : List Bool) (a : Nat) : Nat → Prop where
  | refl : Con ps bs a a
  | step {u v e : Nat} {p : Int × Int} : Con ps bs a u → bs[e]? = some false → ps[e]? = some p → (p.1 = (u : Int) ∧ p.2 = (v : Int) ∨ p.1 = (v : Int) ∧ p.2 = (u : Int)) → Con ps bs a v
theorem nodup_le {n : Nat} : ∀ {es : List Nat}, es.Nodup → (∀ e ∈ es, e < n) → es.length ≤ n := fun {es} h1 h2 => by
  have : ∀ (xs ys : List Nat), xs.Nodup → (∀ x ∈ xs, x ∈ ys) → xs.length ≤ ys.length := by
    intro xs
    induction xs with
    | nil => exact fun _ _ _ => Nat.zero_le _
    | cons x xs ih =>
      intro ys h s
      have hx := s x (by simp)
      have h2 := List.nodup_cons.mp h
      have l := ih (ys.erase x) h2.2 fun y hy => by
        refine (List.mem_erase_of_ne ?_).mpr (s y (by simp [hy]))
        rintro rfl
        exact h2.1 hy
      rw [List.length_erase_of_mem hx] at l
      have : 0 < ys.length := List.length_pos_of_mem hx
      rw [List.length_cons]
      omega
  have := this es (List.range n) h1 fun e he => List.mem_range.mpr (h2 e he)
  rwa [List.length_range] at this
/-- no open edge leaves es -/
def closedB (ps : List (Int × Int)) (bs : List Bool) (es : List Nat) (k : Nat) : Prop := ∀ (e : Nat) (p : Int × Int), e < k → bs[e]? = some false → ps[e]? = some p → (p.1.toNat ∈ es ↔ p.2.toNat ∈ es)
theorem con_closed {n : Nat} {ps : List (Int × Int)} {bs : List Bool} {es : List Nat} {a : Nat} (ha : a ∈ es) (cl : closedB ps bs es ps.length) {v : Nat} (h : Con ps bs a v) : v ∈ es := by
  induction h with
  | refl => exact ha
  | step h1 h2 h3 h4 ih =>
    have hl := (List.getElem?_eq_some_iff.mp h3).1
    have := cl _ _ hl h2 h3
    rcases h4 with ⟨e1, e2⟩ | ⟨e1, e2⟩
    · rw [e1, e2, Int.toNat_natCast, Int.toNat_natCast] at this
      exact this.mp ih
    · rw [e1, e2, Int.toNat_natCast, Int.toNat_natCast] at this
      exact this.mpr ih
structure Lin (n : Nat) (ps : List (Int × Int)) (bs : List Bool) (a : Nat) (es : List Nat) : Prop where
  nd : es.Nodup
  lt : ∀ e ∈ es, e < n
  st : a ∈ es
  rc : ∀ e ∈ es, Con ps bs a e
section
variable {Γ : Tb}
def lreachF : Fn := ⟨[.sh, .sh, .bo, .sh], fun ds Q _ => ∃ (n : Nat) (ps : List (Int × Int)) (bs : List Bool) (a : Nat), ds = [.int n, .lst (ps.map pairD), .lst (bs.map D.bl), .int a] ∧ okG n ps ∧ a < n ∧ n < line ∧ ps.length < line ∧ bs.length = ps.length ∧
  ∀ es : List Nat, (∀ e ∈ es, e < n) → (∀ v, v ∈ es ↔ Con ps bs a v) → Q (.fr (markD n es)) []⟩
theorem mark_at {n : Nat} {es : List Nat} {i : Int} (h0 : 0 ≤ i) (h1 : i < n) : dIx (.lst (markD n es)) (.int i) = some (.bl (decide (i.toNat ∈ es))) := by
  obtain ⟨j, rfl⟩ := Int.eq_ofNat_of_zero_le h0
  exact lst_at (markD_get (by omega))
theorem mark_ix {n : Nat} {es : List Nat} {i : Int} (h0 : 0 ≤ i) (h1 : i < n) : L2.ixN (markD n es).length i = some i.toNat := by
  rw [markD_len]
  unfold L2.ixN
  rw [if_pos h0, if_pos h1]
abbrev rSl (n : Nat) (ps : List (Int × Int)) (bs : List Bool) (a : Nat) (es : List Nat) (s5 s6 s7 s8 : Sl) : En := [.sh (.int n), .sh (.lst (ps.map pairD)), .bo (bs.map D.bl), .sh (.int a), .ow (markD n es), s5, s6, s7, s8]
def rb1 : Ss :=
  (.cons (.iff (.and (.cons (.not (.ex (.ix (.var 2) (.var 8)))) (.cons (.cmp .ne (.ix (.var 4) (.ix (.ix (.var 1) (.var 8)) (.int 0))) (.ix (.var 4) (.ix (.ix (.var 1) (.var 8)) (.int 1)))) .nil)))
   (.cons (.set (.var 4) (.ix (.ix (.var 1) (.var 8)) (.int 0)) (.bl true))
    (.cons (.set (.var 4) (.ix (.ix (.var 1) (.var 8)) (.int 1)) (.bl true))
    (.cons (.asg (.nm 7) (.bl true))
    .nil)))
   .nil)
  .nil)
theorem reach_edge {P : Po} {n : Nat} {ps : List (Int × Int)} {bs : List Bool} {a k : Nat} {es : List Nat} {s5 s6 : Sl} {gr : Bool} {p : Int × Int} {b : Bool} (ok : okG n ps) (hp : ps[k]? = some p) (hb : bs[k]? = some b) (L : Lin n ps bs a es)
    (same : (b = false → (p.1.toNat ∈ es ↔ p.2.toNat ∈ es)) → P.nx (rSl n ps bs a es s5 s6 (.sh (.bl gr)) (.sh (.int k))))
    (more : ∀ c, c ∉ es → Lin n ps bs a (es ++ [c]) → P.nx (rSl n ps bs a (es ++ [c]) s5 s6 (.sh (.bl true)) (.sh (.int k)))) :
    dSs Γ rb1 (rSl n ps bs a es s5 s6 (.sh (.bl gr)) (.sh (.int k))) P := by
  have o := ok p (List.mem_of_getElem? hp)
  have pa : dIx (.lst (ps.map pairD)) (.int (k : Int)) = some (pairD p) := lst_at (by rw [List.getElem?_map, hp]; rfl)
  have ba : dIx (.lst (bs.map D.bl)) (.int (k : Int)) = some (.bl b) := lst_at (by rw [List.getElem?_map, hb]; rfl)
  have g1 : p.1.toNat < n := by omega
  have g2 : p.2.toNat < n := by omega
  conv => whnf
  refine w1_at ba ?_
  cases b with
  | true => exact same fun h => (by cases h)
  | false =>
    conv => whnf
    refine w1_at pa ?_
    refine w1_at (mark_at o.1 o.2.1) ?_
    refine w1_at pa ?_
    refine w1_at (mark_at o.2.2.1 o.2.2.2) ?_
    refine w1_at rfl ?_
    refine w1_at rfl ?_
    refine w1_at rfl ?_
    by_cases e : decide (p.1.toNat ∈ es) = decide (p.2.toNat ∈ es)
    · refine ite_f (c := (!decide (decide (p.1.toNat ∈ es) = decide (p.2.toNat ∈ es))) = true) (by simp [e]) ?_
      exact same fun _ => decide_eq_decide.mp e
    · refine ite_t (c := (!decide (decide (p.1.toNat ∈ es) = decide (p.2.toNat ∈ es))) = true) (by rw [decide_eq_false e]; rfl) ?_
      conv => whnf
      refine w1_at pa ?_
      refine w1_at (mark_ix o.1 o.2.1) ?_
      rw [markD_set g1]
      refine w1_at pa ?_
      refine w1_at (mark_ix o.2.2.1 o.2.2.2) ?_
      rw [markD_set g2]
      refine ⟨rfl, ?_⟩
      have e1 : (p.1.toNat : Int) = p.1 := Int.toNat_of_nonneg o.1
      have e2 : (p.2.toNat : Int) = p.2 := Int.toNat_of_nonneg o.2.2.1
      by_cases h1 : p.1.toNat ∈ es
      · have h2 : p.2.toNat ∉ es := fun h2 => e (by rw [decide_eq_true h1, decide_eq_true h2])
        have := more p.2.toNat h2 ⟨List.nodup_append.mpr ⟨L.nd, by simp, fun x hx y hy => by
            rw [List.mem_singleton] at hy
            rintro rfl
            exact h2 (hy ▸ hx)⟩, fun x hx => ?_, List.mem_append_left _ L.st, fun x hx => ?_⟩
        · rw [show markD n (es ++ [p.1.toNat] ++ [p.2.toNat]) = markD n (es ++ [p.2.toNat]) from markD_congr fun u _ => ?_]
          · exact this
          · simp only [List.mem_append, List.mem_singleton]
            exact ⟨fun z => z.elim (fun z => z.elim .inl fun z => .inl (z ▸ h1)) .inr, fun z => z.elim (fun z => .inl (.inl z)) .inr⟩
        · rcases List.mem_append.mp hx with hx | hx
          · exact L.lt x hx
          · rw [List.mem_singleton.mp hx]
            exact g2
        · rcases List.mem_append.mp hx with hx | hx
          · exact L.rc x hx
          · rw [List.mem_singleton.mp hx]
            exact .step (L.rc _ h1) hb hp (.inl ⟨e1.symm, e2.symm⟩)
      · have h2 : p.2.toNat ∈ es := by
          by_cases h2 : p.2.toNat ∈ es
          · exact h2
          · exact absurd (by rw [decide_eq_false h1, decide_eq_false h2]) e
        have := more p.1.toNat h1 ⟨List.nodup_append.mpr ⟨L.nd, by simp, fun x hx y hy => by
            rw [List.mem_singleton] at hy
            rintro rfl
            exact h1 (hy ▸ hx)⟩, fun x hx => ?_, List.mem_append_left _ L.st, fun x hx => ?_⟩
        · rw [show markD n (es ++ [p.1.toNat] ++ [p.2.toNat]) = markD n (es ++ [p.1.toNat]) from markD_congr fun u _ => ?_]
          · exact this
          · simp only [List.mem_append, List.mem_singleton]
            exact ⟨fun z => z.elim id fun z => .inl (z ▸ h2), fun z => .inl z⟩
        · rcases List.mem_append.mp hx with hx | hx
          · exact L.lt x hx
          · rw [List.mem_singleton.mp hx]
            exact g1
        · rcases List.mem_append.mp hx with hx | hx
          · exact L.rc x hx
          · rw [List.mem_singleton.mp hx]
            exact .step (L.rc _ h2) hb hp (.inr ⟨e1.symm, e2.symm⟩)
theorem p_lreach : ∀ ds Q X, lreachF.sp ds Q X → dDef Γ [.sh, .sh, .bo, .sh] 5 b_law_reach ds Q X := by
  rintro ds Q X ⟨n, ps, bs, a, rfl, ok, ha, hn, hp, hbl, q⟩
  have hb : line < 2 ^ 62 := by decide
  have one : ∀ k, k < n → markD k [a] ++ [.bl (decide ((k : Int) = (a : Int)))] = markD (k + 1) [a] := fun k _ => by
    unfold markD
    rw [List.range_succ, List.map_append]
    congr 1
    show [D.bl _] = [D.bl _]
    congr 2
    exact decide_eq_decide.mpr (by rw [List.mem_singleton]; omega)
  refine ⟨⟨by omega, by omega⟩, rfl, fun k acc ρ => acc = markD k [a] ∧ ρ = [.sh (.int n), .sh (.lst (ps.map pairD)), .bo (bs.map D.bl), .sh (.int a), .top, .top, .top, .top, .top], ⟨rfl, rfl⟩, ?_, ?_⟩
  · rintro k acc ρ d hd ⟨rfl, rfl⟩
    obtain ⟨hk, rfl⟩ := getR hd
    have hk : k < n := by omega
    rw [Int.zero_add]
    refine ⟨rfl, ?_⟩
    refine w1_at rfl ?_
    exact ⟨by rw [markD_len]; omega, one k hk, rfl⟩
  rintro acc ρ ⟨rfl, rfl⟩
  rw [rngD_len, show ((n : Int) - 0).toNat = n from by omega]
  refine ⟨rfl, ?_⟩
  conv => whnf
  refine ⟨⟨by omega, by omega⟩, ?_⟩
  have fin : ∀ es s5 s6 s7 s8, Lin n ps bs a es → closedB ps bs es ps.length → ∃ x o, retD (rSl n ps bs a es s5 s6 s7 s8) (.br 4) = some x ∧ outsOf (rSl n ps bs a es s5 s6 s7 s8) [.sh, .sh, .bo, .sh] 0 = some o ∧ Q x o := fun es s5 s6 s7 s8 L cl =>
    ⟨_, _, rfl, rfl, q es L.lt fun v => ⟨L.rc v, fun h => con_closed (n := n) L.st cl h⟩⟩
  refine ⟨fun k ρ => ∃ (es : List Nat) (s6 s7 s8 : Sl), ρ = rSl n ps bs a es .top s6 s7 s8 ∧ Lin n ps bs a es ∧ k + 1 ≤ es.length ∧ isIo (some s6) = false ∧ isIo (some s7) = false ∧ isIo (some s8) = false,
    ⟨[a], .top, .top, .top, rfl, ⟨by simp, fun e he => by rw [List.mem_singleton.mp he]; exact ha, by simp, fun e he => by rw [List.mem_singleton.mp he]; exact .refl⟩, by simp, rfl, rfl, rfl⟩, ?_, ?_⟩
  · rintro k ρ d hd ⟨es, s6, s7, s8, rfl, L, hk1, h6, h7, h8⟩
    obtain ⟨hk, rfl⟩ := getR hd
    refine ⟨h6, h7, ?_⟩
    conv => whnf
    refine ⟨⟨by rw [List.length_map]; omega, by rw [List.length_map]; omega⟩, ?_⟩
    refine ⟨fun j ρ => ∃ (fs : List Nat) (s8 : Sl) (gr : Bool), ρ = rSl n ps bs a fs .top (.sh (.int (0 + (k : Int)))) (.sh (.bl gr)) s8 ∧ Lin n ps bs a fs ∧ (gr = true → es.length + 1 ≤ fs.length) ∧ (gr = false → fs = es ∧ closedB ps bs es j) ∧ isIo (some s8) = false,
      ⟨es, s8, false, rfl, L, fun h => (by cases h), fun _ => ⟨rfl, fun e p h => absurd h (by omega)⟩, h8⟩, ?_, ?_⟩
    · rintro j ρ d hd ⟨fs, s8, gr, rfl, L2, g1, g2, h8⟩
      obtain ⟨hj, rfl⟩ := getR hd
      rw [List.length_map] at hj
      have hj : j < ps.length := by omega
      rw [Int.zero_add]
      refine ⟨h8, ?_⟩
      obtain ⟨p, hp'⟩ : ∃ p, ps[j]? = some p := ⟨ps[j], List.getElem?_eq_getElem hj⟩
      obtain ⟨b, hb'⟩ : ∃ b, bs[j]? = some b := ⟨bs[j]'(by omega), List.getElem?_eq_getElem (by omega)⟩
      refine reach_edge ok hp' hb' L2 (fun sm => ?_) fun c hc L3 => ?_
      · refine ⟨fs, _, gr, rfl, L2, g1, fun hg => ⟨(g2 hg).1, fun e p he h1 h2 => ?_⟩, rfl⟩
        by_cases z : e = j
        · subst z
          rw [hb'] at h1
          rw [hp'] at h2
          cases h1
          cases h2
          rw [← (g2 hg).1]
          exact sm rfl
        · exact (g2 hg).2 e p (by omega) h1 h2
      · refine ⟨fs ++ [c], _, true, rfl, L3, fun _ => ?_, fun h => (by cases h), rfl⟩
        rw [List.length_append]
        show es.length + 1 ≤ fs.length + 1
        cases gr with
        | true =>
          have := g1 rfl
          omega
        | false =>
          rw [(g2 rfl).1]
          exact Nat.le_refl _
    · rintro ρ ⟨fs, s8, gr, rfl, L2, g1, g2, h8⟩
      rw [rngD_len, List.length_map, show ((ps.length : Int) - 0).toNat = ps.length from by omega] at g2
      cases gr with
      | true => exact ⟨fs, _, _, s8, rfl, L2, by have := g1 rfl; omega, rfl, rfl, h8⟩
      | false =>
        obtain ⟨rfl, cl⟩ := g2 rfl
        exact fin fs _ _ _ _ L2 cl
  · rintro ρ ⟨es, s6, s7, s8, rfl, L, hk1, _, _, _⟩
    rw [rngD_len] at hk1
    have := nodup_le L.nd L.lt
    omega
end
end M
set_option linter.all false
set_option Elab.async false
set_option maxRecDepth 10000
set_option maxHeartbeats 4000000
/-! K40P: parts by their least vertices, numbered. -/
namespace M
open PySem PySem.Spec PyProof.Rows L2 C8
theorem atG_mem {v : Int} : ∀ {k : Nat} {l : List (Int × Int)} {j : Nat} {p : Int × Int}, l[j]? = some p → (p.1 = v ∨ p.2 = v) → ((k + j : Nat) : Int) ∈ atG k l v
  | k, [], j, p, h, _ => by simp at h
  | k, a :: l, 0, p, h, e => by
    rw [List.getElem?_cons_zero] at h
    cases h
    rw [atG, List.mem_append]
    exact .inl (by rw [if_pos e]; simp)
  | k, a :: l, j + 1, p, h, e => by
    rw [List.getElem?_cons_succ] at h
    rw [atG, List.mem_append]
    refine .inr ?_
    have := atG_mem (k := k + 1) h e
    rwa [show k + 1 + j = k + (j + 1) by omega] at this
theorem Con.trans {ps : List (Int × Int)} {bs : List Bool} {a b c : Nat} (h1 : Con ps bs a b) (h2 : Con ps bs b c) : Con ps bs a c := by
  induction h2 with
  | refl => exact h1
  | step _ x y z ih => exact .step ih x y z
theorem Con.symm {ps : List (Int × Int)} {bs : List Bool} {a b : Nat} (h : Con ps bs a b) : Con ps bs b a := by
  induction h with
  | refl => exact .refl
  | step _ x y z ih => exact (Con.step .refl x y (z.symm.imp (fun w => ⟨w.1, w.2⟩) fun w => ⟨w.1, w.2⟩)).trans ih
def barB (m : Nat) (es : List Nat) : List Bool := (markB m es).map (!·)
theorem barB_get {m j : Nat} {es : List Nat} : (barB m es)[j]? = some false ↔ j < m ∧ j ∈ es := by
  unfold barB markB
  rw [List.getElem?_map, List.getElem?_map]
  by_cases h : j < m
  · rw [List.getElem?_range h]
    simp [h]
  · rw [List.getElem?_eq_none (by rw [List.length_range]; omega)]
    simp [h]
theorem ways_get {m j : Nat} {es : List Nat} : ((markB m es).map waysL).getD j [] = if j < m ∧ j ∈ es then [1, -1] else [] := by
  unfold markB
  rw [List.getD_eq_getElem?_getD, List.getElem?_map, List.getElem?_map]
  by_cases h : j < m
  · rw [List.getElem?_range h]
    by_cases h2 : j ∈ es
    · rw [if_pos ⟨h, h2⟩]
      simp [waysL, h2]
    · rw [if_neg fun z => h2 z.2]
      simp [waysL, h2]
  · rw [List.getElem?_eq_none (by rw [List.length_range]; omega), if_neg fun z => h z.1] <;> rfl
theorem reach_con {ps : List (Int × Int)} {es : List Nat} {a v : Nat} : Reach ps ((markB ps.length es).map waysL) a v ↔ Con ps (barB ps.length es) a v := by
  constructor
  · intro h
    induction h with
    | refl => exact .refl
    | @step u w x _ hx hv ih =>
      obtain ⟨e, he, hx⟩ := List.mem_flatMap.mp hx
      obtain ⟨j, hj, rfl⟩ := atG_get (ps := ps) he
      unfold stepsAt at hx
      obtain ⟨s, hs, ho⟩ := List.mem_filterMap.mp hx
      rw [Nat.zero_add, Int.toNat_natCast] at hs ho
      rw [ways_get] at hs
      rw [List.getD_eq_getElem?_getD, List.getElem?_eq_getElem hj, Option.getD_some] at ho
      by_cases hm : j < ps.length ∧ j ∈ es
      · rw [if_pos hm] at hs
        unfold stepOf at ho
        by_cases hq : (stepP s ps[j]).1 = (u : Int)
        · rw [if_pos hq] at ho
          cases ho
          refine .step ih (barB_get.mpr hm) (List.getElem?_eq_getElem hj) ?_
          unfold stepP at hq hv
          rcases (show s = 1 ∨ s = -1 by simpa using hs) with rfl | rfl
          · rw [if_pos rfl] at hq hv
            exact .inl ⟨hq, hv⟩
          · rw [if_neg (by decide)] at hq hv
            exact .inr ⟨hv, hq⟩
        · rw [if_neg hq] at ho
          cases ho
      · rw [if_neg hm] at hs
        cases hs
  · intro h
    induction h with
    | refl => exact .refl
    | @step u w e p _ hb hp hc ih =>
      have hm := barB_get.mp hb
      have pg : ps.getD e (0, 0) = p := by rw [List.getD_eq_getElem?_getD, hp] <;> rfl
      rcases hc with ⟨c1, c2⟩ | ⟨c1, c2⟩
      · refine .step (x := (((e : Int), 1), p.2)) ih (List.mem_flatMap.mpr ⟨(e : Int), by have := atG_mem (k := 0) hp (.inl c1); rwa [Nat.zero_add] at this, ?_⟩) c2
        unfold stepsAt
        rw [Int.toNat_natCast, ways_get, if_pos hm, pg]
        refine List.mem_filterMap.mpr ⟨1, by simp, ?_⟩
        unfold stepOf
        have : stepP 1 p = p := if_pos rfl
        rw [this, if_pos c1]
      · refine .step (x := (((e : Int), -1), p.1)) ih (List.mem_flatMap.mpr ⟨(e : Int), by have := atG_mem (k := 0) hp (.inr c2); rwa [Nat.zero_add] at this, ?_⟩) c1
        unfold stepsAt
        rw [Int.toNat_natCast, ways_get, if_pos hm, pg]
        refine List.mem_filterMap.mpr ⟨-1, by simp, ?_⟩
        unfold stepOf
        have : stepP (-1) p = (p.2, p.1) := if_neg (by decide)
        rw [this, if_pos c2]
/-! ### numbers by the least ones -/
theorem least {P : Nat → Prop} {v : Nat} (h : P v) : ∃ r, r ≤ v ∧ P r ∧ ∀ u, u < r → ¬ P u := by
  induction v using Nat.strongRecOn with
  | ind v ih =>
    by_cases h2 : ∃ u, u < v ∧ P u
    · obtain ⟨u, hu, pu⟩ := h2
      obtain ⟨r, a, b, c⟩ := ih u hu pu
      exact ⟨r, by omega, b, c⟩
    · exact ⟨v, Nat.le_refl _, h, fun u hu pu => h2 ⟨u, hu, pu⟩⟩
structure Eqv (C : Nat → Nat → Prop) : Prop where
  rf : ∀ a, C a a
  sy : ∀ a b, C a b → C b a
  tr : ∀ a b c, C a b → C b c → C a c
noncomputable def rtN (C : Nat → Nat → Prop) (v : Nat) : Nat := @dite Nat (∃ r, r ≤ v ∧ C v r ∧ ∀ u, u < r → ¬ C v u) (Classical.propDecidable _) (fun h => Classical.choose h) fun _ => 0
def RtC (C : Nat → Nat → Prop) (v : Nat) : Prop := ¬ ∃ r, r < v ∧ C r v
noncomputable def rtsN (C : Nat → Nat → Prop) (k : Nat) : List Nat := (List.range k).filter fun v => decB (RtC C v)
noncomputable def cntN (C : Nat → Nat → Prop) (k : Nat) : Nat := (rtsN C k).length
noncomputable def numN (C : Nat → Nat → Prop) (v : Nat) : Nat := cntN C (rtN C v)
section
variable {C : Nat → Nat → Prop} (E : Eqv C)
include E
theorem rt_spec (v : Nat) : rtN C v ≤ v ∧ C v (rtN C v) ∧ ∀ u, u < rtN C v → ¬ C v u := by
  have h := least (P := fun u => C v u) (E.rf v)
  unfold rtN
  rw [dif_pos h]
  exact Classical.choose_spec h
theorem rt_root (v : Nat) : RtC C (rtN C v) := fun ⟨r, h1, h2⟩ => (rt_spec E v).2.2 r h1 (E.tr _ _ _ (rt_spec E v).2.1 (E.sy _ _ h2))
theorem rt_same {u v : Nat} (h : C u v) : rtN C u = rtN C v := by
  have a := rt_spec E u
  have b := rt_spec E v
  rcases Nat.lt_trichotomy (rtN C u) (rtN C v) with z | z | z
  · exact absurd (E.tr _ _ _ (E.sy _ _ h) a.2.1) (b.2.2 _ z)
  · exact z
  · exact absurd (E.tr _ _ _ h b.2.1) (a.2.2 _ z)
theorem root_rt {r : Nat} (h : RtC C r) : rtN C r = r := by
  have a := rt_spec E r
  by_cases z : rtN C r = r
  · exact z
  · exact absurd ⟨rtN C r, by omega, E.sy _ _ a.2.1⟩ h
theorem num_same {u v : Nat} (h : C u v) : numN C u = numN C v := by
  unfold numN
  rw [rt_same E h]
theorem num_root {r : Nat} (h : RtC C r) : numN C r = cntN C r := by
  unfold numN
  rw [root_rt E h]
end
theorem rts_snoc {C : Nat → Nat → Prop} {k : Nat} : rtsN C (k + 1) = rtsN C k ++ (if decB (RtC C k) = true then [k] else []) := by
  unfold rtsN
  rw [List.range_succ, List.filter_append, List.filter_cons]
  split <;> rfl
theorem cnt_root {C : Nat → Nat → Prop} {k : Nat} (h : RtC C k) : cntN C (k + 1) = cntN C k + 1 := by
  unfold cntN
  rw [rts_snoc, if_pos (decB_iff.mpr h), List.length_append] <;> rfl
theorem cnt_not {C : Nat → Nat → Prop} {k : Nat} (h : ¬ RtC C k) : cntN C (k + 1) = cntN C k := by
  unfold cntN
  rw [rts_snoc, if_neg (fun z => h (decB_iff.mp z)), List.append_nil]
theorem rts_pre {C : Nat → Nat → Prop} {k : Nat} : ∀ {n : Nat}, k ≤ n → ∃ l, rtsN C n = rtsN C k ++ l
  | 0, h => by
    obtain rfl : k = 0 := by omega
    exact ⟨[], (List.append_nil _).symm⟩
  | n + 1, h => by
    by_cases z : k = n + 1
    · subst z
      exact ⟨[], (List.append_nil _).symm⟩
    · obtain ⟨l, e⟩ := rts_pre (C := C) (k := k) (n := n) (by omega)
      exact ⟨l ++ (if decB (RtC C n) = true then [n] else []), by rw [rts_snoc, e, List.append_assoc]⟩
theorem rts_at {C : Nat → Nat → Prop} {r n : Nat} (h : RtC C r) (hr : r < n) : (rtsN C n)[cntN C r]? = some r := by
  obtain ⟨l, e⟩ := rts_pre (C := C) (k := r + 1) (n := n) hr
  rw [e, rts_snoc, if_pos (decB_iff.mpr h), List.append_assoc]
  unfold cntN
  rw [List.getElem?_append_right (Nat.le_refl _), Nat.sub_self] <;> rfl
theorem at_rts {C : Nat → Nat → Prop} {r n j : Nat} (h : (rtsN C n)[j]? = some r) : RtC C r ∧ r < n ∧ cntN C r = j := by
  have m := List.mem_filter.mp (show r ∈ (List.range n).filter fun v => decB (RtC C v) from List.mem_of_getElem? h)
  have h1 := decB_iff.mp m.2
  have h2 := List.mem_range.mp m.1
  refine ⟨h1, h2, ?_⟩
  have nd : (rtsN C n).Nodup := List.Pairwise.filter _ List.nodup_range
  obtain ⟨a1, a2⟩ := List.getElem?_eq_some_iff.mp h
  obtain ⟨b1, b2⟩ := List.getElem?_eq_some_iff.mp (rts_at h1 h2)
  have pw := List.pairwise_iff_getElem.mp nd
  rcases Nat.lt_trichotomy (cntN C r) j with z | z | z
  · exact absurd (b2.trans a2.symm) (pw _ _ b1 a1 z)
  · exact z
  · exact absurd (a2.trans b2.symm) (pw _ _ a1 b1 z)
theorem num_lt {C : Nat → Nat → Prop} (E : Eqv C) {v n : Nat} (h : v < n) : numN C v < cntN C n := by
  have a := rt_spec E v
  have := (List.getElem?_eq_some_iff.mp (rts_at (rt_root E v) (show rtN C v < n by omega))).1
  exact this
theorem num_at {C : Nat → Nat → Prop} (E : Eqv C) {v n k r : Nat} (h : v < n) (hr : (rtsN C n)[k]? = some r) : C r v ↔ numN C v = k := by
  obtain ⟨r1, r2, r3⟩ := at_rts hr
  constructor
  · intro c
    rw [← num_same E c, num_root E r1, r3]
  · intro e
    have a := rt_spec E v
    have := rts_at (rt_root E v) (show rtN C v < n by omega)
    rw [show cntN C (rtN C v) = k from e, hr] at this
    cases this
    exact E.sy _ _ a.2.1
noncomputable def numK (C : Nat → Nat → Prop) (k v : Nat) : Nat := if numN C v < k then numN C v else 0
theorem numK_succ {C : Nat → Nat → Prop} {k v : Nat} : numK C (k + 1) v = if numN C v = k then k else numK C k v := by
  unfold numK
  by_cases h : numN C v = k
  · rw [if_pos h, if_pos (by omega), h]
  · rw [if_neg h]
    by_cases h2 : numN C v < k
    · rw [if_pos h2, if_pos (by omega)]
    · rw [if_neg h2, if_neg (by omega)]
theorem eqv_con {ps : List (Int × Int)} {bs : List Bool} : Eqv (Con ps bs) := ⟨fun _ => .refl, fun _ _ h => h.symm, fun _ _ _ h g => h.trans g⟩
theorem rts_parts {n : Nat} {ps : List (Int × Int)} {es : List Nat} : partsG n ps ((markB ps.length es).map waysL) n = (rtsN (Con ps (barB ps.length es)) n).map (rowG n ps ((markB ps.length es).map waysL)) := by
  unfold partsG rtsN
  congr 1
  refine List.filter_congr fun v _ => ?_
  congr 1
  unfold Root RtC
  refine propext (not_congr (exists_congr fun r => and_congr_right fun _ => reach_con))
end M
set_option linter.all false
set_option Elab.async false
set_option maxRecDepth 10000
/-! MiniY: short words for proofs on plain data. -/
namespace M
open PySem (Str PyData)
section
variable {Γ : Tb}
/-- [elt for tg in ..] -/
theorem lc_map (f : Nat → D → D) {elt : E} {tg : T} {own : List (Str × Nat)} {ds : List D} {ρ : En} {Z : List D → En → Prop} (hf : freeE ρ own = true) (hl : ds.length ≤ line)
    (step : ∀ (k : Nat) (d : D) (G : R → En → Prop), ds[k]? = some d → (∀ r ρ4 ρ5, keep ρ4 r = some (f k d, ρ5) → wipeE ρ5 own = wipeE ρ own → G r ρ4) → dTg tg d (wipeE ρ own) fun ρ2 => dE Γ elt ρ2 G nEx)
    (q : Z (ds.mapIdx f) (wipeE ρ own)) :
    freeE ρ own = true ∧ ∃ W : Nat → List D → En → Prop, W 0 [] (wipeE ρ own) ∧
      (∀ k acc ρ' d, ds[k]? = some d → W k acc ρ' → dTg tg d ρ' fun ρ2 => dIf Γ .nil ρ2 (fun t ρ3 =>
        if t = true then dE Γ elt ρ3 (fun r ρ4 => w2 (keep ρ4 r) fun d' ρ5 => acc.length < line ∧ W (k + 1) (acc ++ [d']) (wipeE ρ5 own)) nEx
        else W (k + 1) acc (wipeE ρ3 own)) nEx) ∧
      ∀ acc ρ', W ds.length acc ρ' → Z acc ρ' := by
  refine ⟨hf, fun k acc ρ' => acc = (ds.take k).mapIdx f ∧ ρ' = wipeE ρ own, ⟨rfl, rfl⟩, ?_, ?_⟩
  · rintro k acc ρ' d hd ⟨rfl, rfl⟩
    have hk := (List.getElem?_eq_some_iff.mp hd).1
    refine step k d _ hd fun r ρ4 ρ5 e1 e2 => ?_
    rw [e1]
    refine ⟨by rw [List.length_mapIdx, List.length_take]; omega, ?_, e2⟩
    rw [List.take_succ_eq_append_getElem hk, List.mapIdx_append, (List.getElem?_eq_some_iff.mp hd).2]
    simp [Nat.min_eq_left (Nat.le_of_lt hk)]
  · rintro acc ρ' ⟨rfl, rfl⟩
    rw [List.take_length]
    exact q
/-- [elt for tg in .. if c] -/
theorem lc_fil (f : Nat → D → Option D) {elt : E} {c : B} {tg : T} {own : List (Str × Nat)} {ds : List D} {ρ : En} {Z : List D → En → Prop} (hf : freeE ρ own = true) (hl : ds.length ≤ line)
    (step : ∀ (k : Nat) (d : D) (G : R → En → Prop) (N : En → Prop), ds[k]? = some d → (∀ d' r ρ4 ρ5, f k d = some d' → keep ρ4 r = some (d', ρ5) → wipeE ρ5 own = wipeE ρ own → G r ρ4) → (∀ ρ3, f k d = none → wipeE ρ3 own = wipeE ρ own → N ρ3) →
      dTg tg d (wipeE ρ own) fun ρ2 => dT Γ c ρ2 (fun t ρ3 => if t = true then dE Γ elt ρ3 G nEx else N ρ3) nEx)
    (q : Z ((ds.mapIdx f).filterMap id) (wipeE ρ own)) :
    freeE ρ own = true ∧ ∃ W : Nat → List D → En → Prop, W 0 [] (wipeE ρ own) ∧
      (∀ k acc ρ' d, ds[k]? = some d → W k acc ρ' → dTg tg d ρ' fun ρ2 => dIf Γ (.cons c .nil) ρ2 (fun t ρ3 =>
        if t = true then dE Γ elt ρ3 (fun r ρ4 => w2 (keep ρ4 r) fun d' ρ5 => acc.length < line ∧ W (k + 1) (acc ++ [d']) (wipeE ρ5 own)) nEx
        else W (k + 1) acc (wipeE ρ3 own)) nEx) ∧
      ∀ acc ρ', W ds.length acc ρ' → Z acc ρ' := by
  refine ⟨hf, fun k acc ρ' => acc = ((ds.take k).mapIdx f).filterMap id ∧ ρ' = wipeE ρ own, ⟨rfl, rfl⟩, ?_, ?_⟩
  · rintro k acc ρ' d hd ⟨rfl, rfl⟩
    have hk := (List.getElem?_eq_some_iff.mp hd).1
    have one : ((ds.take (k + 1)).mapIdx f).filterMap id = ((ds.take k).mapIdx f).filterMap id ++ (f k d).toList := by
      rw [List.take_succ_eq_append_getElem hk, List.mapIdx_append, (List.getElem?_eq_some_iff.mp hd).2, List.filterMap_append]
      congr 1
      simp only [List.mapIdx_cons, List.mapIdx_nil, List.length_take, Nat.min_eq_left (Nat.le_of_lt hk), Nat.zero_add]
      cases f k d <;> rfl
    refine step k d _ _ hd (fun d' r ρ4 ρ5 e0 e1 e2 => ?_) fun ρ3 e0 e2 => ⟨by rw [one, e0]; simp, e2⟩
    rw [e1]
    refine ⟨?_, ?_, e2⟩
    · have := List.length_filterMap_le id ((ds.take k).mapIdx f)
      rw [List.length_mapIdx, List.length_take] at this
      omega
    · rw [one, e0] <;> rfl
  · rintro acc ρ' ⟨rfl, rfl⟩
    rw [List.take_length]
    exact q
/-- the same, where the walk may change other slots -/
theorem lc_mapI (I : En → Prop) (f : Nat → D → D) {elt : E} {tg : T} {own : List (Str × Nat)} {ds : List D} {ρ : En} {Z : List D → En → Prop} (hf : freeE ρ own = true) (hl : ds.length ≤ line) (h0 : I (wipeE ρ own))
    (step : ∀ (k : Nat) (d : D) (ρ' : En) (G : R → En → Prop), ds[k]? = some d → I ρ' → (∀ r ρ4 ρ5, keep ρ4 r = some (f k d, ρ5) → I (wipeE ρ5 own) → G r ρ4) → dTg tg d ρ' fun ρ2 => dE Γ elt ρ2 G nEx)
    (q : ∀ ρ', I ρ' → Z (ds.mapIdx f) ρ') :
    freeE ρ own = true ∧ ∃ W : Nat → List D → En → Prop, W 0 [] (wipeE ρ own) ∧
      (∀ k acc ρ' d, ds[k]? = some d → W k acc ρ' → dTg tg d ρ' fun ρ2 => dIf Γ .nil ρ2 (fun t ρ3 =>
        if t = true then dE Γ elt ρ3 (fun r ρ4 => w2 (keep ρ4 r) fun d' ρ5 => acc.length < line ∧ W (k + 1) (acc ++ [d']) (wipeE ρ5 own)) nEx
        else W (k + 1) acc (wipeE ρ3 own)) nEx) ∧
      ∀ acc ρ', W ds.length acc ρ' → Z acc ρ' := by
  refine ⟨hf, fun k acc ρ' => acc = (ds.take k).mapIdx f ∧ I ρ', ⟨rfl, h0⟩, ?_, ?_⟩
  · rintro k acc ρ' d hd ⟨rfl, hI⟩
    have hk := (List.getElem?_eq_some_iff.mp hd).1
    refine step k d ρ' _ hd hI fun r ρ4 ρ5 e1 e2 => ?_
    rw [e1]
    refine ⟨by rw [List.length_mapIdx, List.length_take]; omega, ?_, e2⟩
    rw [List.take_succ_eq_append_getElem hk, List.mapIdx_append, (List.getElem?_eq_some_iff.mp hd).2]
    simp [Nat.min_eq_left (Nat.le_of_lt hk)]
  · rintro acc ρ' ⟨rfl, hI⟩
    rw [List.take_length]
    exact q ρ' hI
theorem lc_filI (I : En → Prop) (f : Nat → D → Option D) {elt : E} {c : B} {tg : T} {own : List (Str × Nat)} {ds : List D} {ρ : En} {Z : List D → En → Prop} (hf : freeE ρ own = true) (hl : ds.length ≤ line) (h0 : I (wipeE ρ own))
    (step : ∀ (k : Nat) (d : D) (ρ' : En) (G : R → En → Prop) (N : En → Prop), ds[k]? = some d → I ρ' → (∀ d' r ρ4 ρ5, f k d = some d' → keep ρ4 r = some (d', ρ5) → I (wipeE ρ5 own) → G r ρ4) → (∀ ρ3, f k d = none → I (wipeE ρ3 own) → N ρ3) →
      dTg tg d ρ' fun ρ2 => dT Γ c ρ2 (fun t ρ3 => if t = true then dE Γ elt ρ3 G nEx else N ρ3) nEx)
    (q : ∀ ρ', I ρ' → Z ((ds.mapIdx f).filterMap id) ρ') :
    freeE ρ own = true ∧ ∃ W : Nat → List D → En → Prop, W 0 [] (wipeE ρ own) ∧
      (∀ k acc ρ' d, ds[k]? = some d → W k acc ρ' → dTg tg d ρ' fun ρ2 => dIf Γ (.cons c .nil) ρ2 (fun t ρ3 =>
        if t = true then dE Γ elt ρ3 (fun r ρ4 => w2 (keep ρ4 r) fun d' ρ5 => acc.length < line ∧ W (k + 1) (acc ++ [d']) (wipeE ρ5 own)) nEx
        else W (k + 1) acc (wipeE ρ3 own)) nEx) ∧
      ∀ acc ρ', W ds.length acc ρ' → Z acc ρ' := by
  refine ⟨hf, fun k acc ρ' => acc = ((ds.take k).mapIdx f).filterMap id ∧ I ρ', ⟨rfl, h0⟩, ?_, ?_⟩
  · rintro k acc ρ' d hd ⟨rfl, hI⟩
    have hk := (List.getElem?_eq_some_iff.mp hd).1
    have one : ((ds.take (k + 1)).mapIdx f).filterMap id = ((ds.take k).mapIdx f).filterMap id ++ (f k d).toList := by
      rw [List.take_succ_eq_append_getElem hk, List.mapIdx_append, (List.getElem?_eq_some_iff.mp hd).2, List.filterMap_append]
      congr 1
      simp only [List.mapIdx_cons, List.mapIdx_nil, List.length_take, Nat.min_eq_left (Nat.le_of_lt hk), Nat.zero_add]
      cases f k d <;> rfl
    refine step k d ρ' _ _ hd hI (fun d' r ρ4 ρ5 e0 e1 e2 => ?_) fun ρ3 e0 e2 => ⟨by rw [one, e0]; simp, e2⟩
    rw [e1]
    refine ⟨?_, ?_, e2⟩
    · have := List.length_filterMap_le id ((ds.take k).mapIdx f)
      rw [List.length_mapIdx, List.length_take] at this
      omega
    · rw [one, e0] <;> rfl
  · rintro acc ρ' ⟨rfl, hI⟩
    rw [List.take_length]
    exact q ρ' hI
end
/-- a filtered range -/
theorem fil_range (n : Nat) (ds : List D) (hd : ds.length = n) (p : Nat → Bool) (g : Nat → D) (f : Nat → D → Option D) (h : ∀ k d, ds[k]? = some d → f k d = if p k = true then some (g k) else none) : (ds.mapIdx f).filterMap id = ((List.range n).filter p).map g := by
  have e : ds.mapIdx f = (List.range n).map fun k => if p k = true then some (g k) else none := by
    refine List.ext_getElem? fun j => ?_
    rw [List.getElem?_mapIdx, List.getElem?_map]
    by_cases hj : j < n
    · rw [List.getElem?_range hj, List.getElem?_eq_getElem (by omega)]
      show some _ = some _
      rw [h j _ (List.getElem?_eq_getElem (by omega))]
    · rw [List.getElem?_eq_none (by omega), List.getElem?_eq_none (by rw [List.length_range]; omega)] <;> rfl
  rw [e]
  induction (List.range n) with
  | nil => rfl
  | cons a l ih =>
    rw [List.map_cons, List.filterMap_cons, List.filter_cons, ih]
    cases p a <;> rfl
end M
set_option linter.all false
set_option Elab.async false
set_option maxRecDepth 10000
/-! EarB: the body of _law_by_ears, printed by gen.py -/
namespace M
open PySem (Str PyData)
/-- _law_by_ears: 0 state 1 most 2 rows 3 many 4 pairs 5 k 6 row 7 at 8 end 9 j 10 names 11 found 12 place 13 one 14 other -/
def b_law_by_ears : Ss :=
  (.cons (.onw 2 (.cons (.int 0) .nil))
  (.cons (.asg (.nm 3) (.int 1))
  (.cons (.asg (.nm 4) (.lst .nil))
  (.cons (.forr (.nm 5) (.rng (.cons (.call "_law_next" (.cons (.var 0) (.cons (.bin .add (.var 1) (.int 1)) .nil))) .nil))
   (.cons (.iff (.cmp .eq (.call "_law_next" (.cons (.var 0) (.cons (.int 8) .nil))) (.int 0))
     (.cons (.ona 2 (.cons (.var 3) .nil))
      (.cons (.asg (.nm 3) (.bin .add (.var 3) (.int 1)))
      .nil))
     .nil)
    (.cons (.ali 6 2 (.call "_law_next" (.cons (.var 0) (.cons (.leno 2) .nil))))
    (.cons (.asg (.nm 7) (.ix (.var 6) (.call "_law_next" (.cons (.var 0) (.cons (.bi .len (.cons (.var 6) .nil)) .nil)))))
    (.cons (.asg (.nm 8) (.ix (.var 6) (.call "_law_next" (.cons (.var 0) (.cons (.bi .len (.cons (.var 6) .nil)) .nil)))))
    (.cons (.forr (.nm 9) (.rng (.cons (.call "_law_next" (.cons (.var 0) (.cons (.int 3) .nil))) .nil))
     (.cons (.app (.var 4) (.tup (.cons (.var 7) (.cons (.var 3) .nil))))
      (.cons (.apa 6 (.var 3))
      (.cons (.asg (.nm 7) (.var 3))
      (.cons (.asg (.nm 3) (.bin .add (.var 3) (.int 1)))
      .nil)))))
    (.cons (.app (.var 4) (.tup (.cons (.var 7) (.cons (.var 8) .nil))))
    .nil)))))))
  (.cons (.asg (.nm 10) (.call "_law_shuffled" (.cons (.var 0) (.cons (.var 3) .nil))))
  (.cons (.asg (.nm 11) (.lst .nil))
  (.cons (.forr (.nm 12) (.ex (.call "_law_shuffled" (.cons (.var 0) (.cons (.bi .len (.cons (.var 4) .nil)) .nil))))
   (.cons (.asg (.nm 13) (.ix (.var 10) (.ix (.ix (.var 4) (.var 12)) (.int 0))))
    (.cons (.asg (.nm 14) (.ix (.var 10) (.ix (.ix (.var 4) (.var 12)) (.int 1))))
    (.cons (.app (.var 11) (.ife (.cmp .eq (.call "_law_next" (.cons (.var 0) (.cons (.int 2) .nil))) (.int 0)) (.tup (.cons (.var 13) (.cons (.var 14) .nil))) (.tup (.cons (.var 14) (.cons (.var 13) .nil)))))
    .nil))))
  (.cons (.ret (.lst (.cons (.var 3) (.cons (.var 11) .nil))))
  .nil))))))))
def n_law_by_ears : List Str := ["state", "most", "rows", "many", "pairs", "k", "row", "at", "end", "j", "names", "found", "place", "one", "other"]
end M
set_option linter.all false
set_option Elab.async false
set_option maxRecDepth 10000
set_option maxHeartbeats 4000000
/-! EarA: _law_by_ears. -/
namespace M
open PySem PySem.Spec PyProof.Rows L2 C8
def rowsD (rows : List (List Nat)) : List (List D) := rows.map fun r => r.map natD
/-- what holds between the ears -/
structure EarI (n : Nat) (ps : List (Int × Int)) (rows : List (List Nat)) : Prop where
  pos : 0 < n
  ok : okG n ps
  ne : ∀ r ∈ rows, r ≠ []
  lt : ∀ r ∈ rows, ∀ v ∈ r, v < n
theorem okG_mono {n m : Nat} {ps : List (Int × Int)} (h : okG n ps) (l : n ≤ m) : okG m ps := fun p hp => by
  have := h p hp
  omega
theorem okG_snoc {n : Nat} {ps : List (Int × Int)} {a b : Nat} (h : okG n ps) (ha : a < n) (hb : b < n) : okG n (ps ++ [((a : Int), (b : Int))]) := fun p hp => by
  rcases List.mem_append.mp hp with hp | hp
  · exact h p hp
  · rw [List.mem_singleton.mp hp]
    omega
section
variable {Γ : Tb}
def earsF : Fn := ⟨[.io, .sh], fun ds Q _ => ∃ (xs : List Int) (p m : Nat), ds = [stD xs p, .int m] ∧ 0 < xs.length ∧ xs.length < line ∧ small xs ∧ m ≤ 20 ∧ p + 1000 < 1000000 ∧
  ∀ (n : Nat) (ps : List (Int × Int)) (p' : Nat), 0 < n → n ≤ 1 + 3 * m → ps.length ≤ 3 * m → okG n ps → p' ≤ p + 400 → Q (.fr [.int n, .lst (ps.map pairD)]) [stL xs p']⟩
structure EarG (Γ : Tb) : Prop where
  nx : Γ.f "_law_next" = some nextF
  sh : Γ.f "_law_shuffled" = some shufF
theorem ear_end (h : EarG Γ) {P : Po} {xs : List Int} {p n m : Nat} {ps : List (Int × Int)} {s2 s5 s6 s7 s8 s9 : Sl} (hl0 : 0 < xs.length) (hl : xs.length < line) (hs : small xs) (hn : n ≤ 100) (hp : ps.length ≤ 100) (hpp : p + 400 < 1000000) (ok : okG n ps)
    (hP : ∀ (qs : List (Int × Int)) (p' : Nat) ρ', qs.length = ps.length → okG n qs → p' ≤ p + n + 2 * ps.length → ρ'[0]? = some (.io (stL xs p')) → ρ'.length = 15 → P.rt (.fr [.int n, .lst (qs.map pairD)]) ρ') :
    dSs Γ (tlS 4 b_law_by_ears) [.io (stL xs p), .sh (.int m), s2, .sh (.int n), .ow (ps.map pairD), s5, s6, s7, s8, s9, .top, .top, .top, .top, .top] P := by
  have hb : 1000000 < line := by decide
  have hb2 : line < 2 ^ 62 := by decide
  conv => whnf
  rw [h.sh]
  refine ⟨(show ([0] : List Nat).Nodup by decide), fun i h1 h2 => (by cases h2), xs, p, n, rfl, hl0, hl, hs, by omega, fun names pn => ?_⟩
  refine ⟨rfl, Nat.zero_le _, rfl, ?_⟩
  conv => whnf
  rw [h.sh]
  refine ⟨(show ([0] : List Nat).Nodup by decide), fun i h1 h2 => (by cases h2), xs, p + n, ps.length, by rw [List.length_map]; rfl, hl0, hl, hs, by omega, fun order po => ?_⟩
  have nlen : names.length = n := by
    rw [pn.length_eq, List.length_range]
  have nlt : ∀ i (hi : i < names.length), names[i] < n := fun i hi => List.mem_range.mp (pn.mem_iff.mp (List.getElem_mem hi))
  have olen : order.length = ps.length := by
    rw [po.length_eq, List.length_range]
  refine ⟨fun k ρ => ∃ (qs : List (Int × Int)) (p' : Nat) (s12 s13 s14 : Sl), ρ = [.io (stL xs p'), .sh (.int m), s2, .sh (.int n), .ow (ps.map pairD), s5, s6, s7, s8, s9, .ow (names.map natD), .ow (qs.map pairD), s12, s13, s14] ∧ qs.length = k ∧ okG n qs ∧ p' ≤ p + n + ps.length + k ∧ isIo (some s12) = false ∧ isIo (some s13) = false ∧ isIo (some s14) = false,
    ⟨[], _, .top, .top, .top, rfl, rfl, fun p h => (by cases h), Nat.le_refl _, rfl, rfl, rfl⟩, ?_, ?_⟩
  · rintro k ρ d hd ⟨qs, p', s12, s13, s14, rfl, ql, qok, hp', i12, i13, i14⟩
    rw [List.getElem?_map] at hd
    obtain ⟨e, he, rfl⟩ := Option.map_eq_some_iff.mp hd
    have hk := (List.getElem?_eq_some_iff.mp he).1
    have hel : e < ps.length := List.mem_range.mp (po.mem_iff.mp (List.mem_of_getElem? he))
    have o := ok ps[e] (List.getElem_mem hel)
    have pa : dIx (.lst (ps.map pairD)) (.int (e : Int)) = some (pairD ps[e]) := lst_at (by rw [List.getElem?_map, List.getElem?_eq_getElem hel]; rfl)
    have na : ∀ z : Int, 0 ≤ z → z < n → dIx (.lst (names.map natD)) (.int z) = some (.int (names.getD z.toNat 0 : Nat)) := fun z z0 z1 => by
      obtain ⟨i, rfl⟩ := Int.eq_ofNat_of_zero_le z0
      have hi : i < names.length := by omega
      refine lst_at ?_
      rw [List.getElem?_map, List.getElem?_eq_getElem hi]
      show some (natD names[i]) = some (.int (names.getD i 0 : Nat))
      rw [List.getD_eq_getElem?_getD, List.getElem?_eq_getElem hi] <;> rfl
    have nb : ∀ z : Int, 0 ≤ z → z < n → names.getD z.toNat 0 < n := fun z z0 z1 => by
      have hi : z.toNat < names.length := by omega
      rw [List.getD_eq_getElem?_getD, List.getElem?_eq_getElem hi]
      exact nlt _ hi
    refine ⟨i12, ?_⟩
    refine w1_at pa ?_
    refine w1_at (na _ o.1 o.2.1) ?_
    refine ⟨i13, ?_⟩
    refine w1_at pa ?_
    refine w1_at (na _ o.2.2.1 o.2.2.2) ?_
    refine ⟨i14, rfl, ?_⟩
    have b1 := nb _ o.1 o.2.1
    have b2 := nb _ o.2.2.1 o.2.2.2
    generalize names.getD ps[e].1.toNat 0 = u at b1
    generalize names.getD ps[e].2.toNat 0 = v at b2
    conv => whnf
    rw [h.nx]
    refine ⟨(show ([0] : List Nat).Nodup by decide), fun i h1 h2 => (by cases h2), xs, p', 2, rfl, by omega, hl0, hl, hs, by omega, fun r hr => ?_⟩
    have one : ∀ (a b : Nat), a < n → b < n → ∃ (qs' : List (Int × Int)) (p'' : Nat) (s12 s13 s14 : Sl), [Sl.io (stL xs (p' + 1)), .sh (.int m), s2, .sh (.int n), .ow (ps.map pairD), s5, s6, s7, s8, s9, .ow (names.map natD), .ow (qs.map pairD ++ [.tup [.int a, .int b]]), .sh (natD e), .sh (.int u), .sh (.int v)] = [.io (stL xs p''), .sh (.int m), s2, .sh (.int n), .ow (ps.map pairD), s5, s6, s7, s8, s9, .ow (names.map natD), .ow (qs'.map pairD), s12, s13, s14] ∧ qs'.length = k + 1 ∧ okG n qs' ∧ p'' ≤ p + n + ps.length + (k + 1) ∧ isIo (some s12) = false ∧ isIo (some s13) = false ∧ isIo (some s14) = false := fun a b ha hb' =>
      ⟨qs ++ [((a : Int), (b : Int))], p' + 1, _, _, _, by rw [List.map_append]; rfl, by rw [List.length_append, ql]; rfl, okG_snoc qok ha hb', by omega, rfl, rfl, rfl⟩
    by_cases h0 : (r : Int) = 0
    · refine ite_t (decide_eq_true h0) ?_
      refine ⟨by show 2 ≤ line; omega, by rw [List.length_map]; omega, ?_⟩
      exact one u v b1 b2
    · refine ite_f (by simpa using h0) ?_
      refine ⟨by show 2 ≤ line; omega, by rw [List.length_map]; omega, ?_⟩
      exact one v u b2 b1
  · rintro ρ ⟨qs, p', s12, s13, s14, rfl, ql, qok, hp', _, _, _⟩
    rw [List.length_map, olen] at ql hp'
    refine ⟨by show 2 ≤ line; omega, ?_⟩
    exact hP qs p' _ ql qok (by omega) rfl rfl
end
end M
set_option linter.all false
set_option Elab.async false
set_option maxRecDepth 10000
set_option maxHeartbeats 4000000
/-! EarC: _law_by_ears. -/
namespace M
open PySem PySem.Spec PyProof.Rows L2 C8
theorem set_self {α : Type} {l : List α} {j : Nat} {r : α} (h : l[j]? = some r) : l.set j r = l := by
  obtain ⟨hj, e⟩ := List.getElem?_eq_some_iff.mp h
  rw [← e, List.set_getElem_self]
theorem rowsD_set {rows : List (List Nat)} {j : Nat} {r : List Nat} : rowsD (rows.set j r) = (rowsD rows).set j (r.map natD) := by
  unfold rowsD
  rw [List.map_set]
theorem EarI.set {n n' : Nat} {ps ps' : List (Int × Int)} {rows : List (List Nat)} {j : Nat} {r : List Nat} (h : EarI n ps rows) (l : n ≤ n') (ok : okG n' ps') (ne : r ≠ []) (lt : ∀ v ∈ r, v < n') : EarI n' ps' (rows.set j r) := by
  refine ⟨Nat.lt_of_lt_of_le h.pos l, ok, fun q hq => ?_, fun q hq v hv => ?_⟩
  · rcases List.mem_or_eq_of_mem_set hq with hq | rfl
    · exact h.ne q hq
    · exact ne
  · rcases List.mem_or_eq_of_mem_set hq with hq | rfl
    · exact Nat.lt_of_lt_of_le (h.lt q hq v hv) l
    · exact lt v hv
/-- neither a list of lists nor one of them -/
def isOA : Sl → Bool
  | .on _ => false
  | .al _ _ _ => false
  | _ => true
def upS (o j : Nat) (new : List D) (i : Nat) (s : Sl) : Sl := match s with
  | .on dss => if i = o then .on (dss.set j new) else .on dss
  | .al o' j' ds => if o' = o ∧ j' = j then .al o j new else .al o' j' ds
  | s => s
theorem upG_eq (o j : Nat) (new : List D) (ρ : En) : upG o j new ρ = ρ.mapIdx fun i s => upS o j new i s := rfl
def EarW (xs : List Int) (p m k : Nat) (ρ : En) : Prop := ∃ (rows : List (List Nat)) (many : Nat) (ps : List (Int × Int)) (p' : Nat) (s5 s6 s7 s8 s9 : Sl), ρ = [.io (stL xs p'), .sh (.int m), .on (rowsD rows), .sh (.int many), .ow (ps.map pairD), s5, s6, s7, s8, s9, .top, .top, .top, .top, .top] ∧
    EarI many ps rows ∧ 0 < rows.length ∧ rows.length ≤ k + 1 ∧ many ≤ 1 + 3 * k ∧ ps.length ≤ 3 * k ∧ (∀ r ∈ rows, r.length ≤ 1 + 3 * k) ∧ p' ≤ p + 1 + 5 * k ∧ isIo (some s5) = false ∧ isIo (some s6) = false ∧ isIo (some s7) = false ∧ isIo (some s8) = false ∧ isIo (some s9) = false
section
variable {Γ : Tb}
theorem r_apa {i v o j : Nat} {r : Ss} {ρ ρ' : En} {P : Po} {d : D} {ds : List D} (hv : ρ[v]? = some (.sh d)) (ha : ρ[i]? = some (.al o j ds)) (hl : ds.length < line) (hu : upG o j (ds ++ [d]) ρ = ρ') (q : dSs Γ r ρ' P) : dSs Γ (.cons (.apa i (.var v)) r) ρ P := by
  show slA ρ[i]? fun _ _ _ => dE Γ (.var v) ρ (fun re ρ1 => w2 (keep ρ1 re) fun d ρ2 => slA ρ2[i]? fun o j ds => ds.length < line ∧ dSs Γ r (upG o j (ds ++ [d]) ρ2) P) P.ex
  rw [ha]
  refine r_var (Γ := Γ) (Q := fun re ρ1 => w2 (keep ρ1 re) fun d ρ2 => slA ρ2[i]? fun o j ds => ds.length < line ∧ dSs Γ r (upG o j (ds ++ [d]) ρ2) P) (X := P.ex) hv ?_
  show slA ρ[i]? fun o j ds => ds.length < line ∧ dSs Γ r (upG o j (ds ++ [d]) ρ) P
  rw [ha]
  refine ⟨hl, ?_⟩
  rw [hu]
  exact q
theorem ear_step {P : Po} {s0 s1 s5 : Sl} {dss : List (List D)} {many jj at' en : Nat} {j : Int} {ps row : List D} (h0 : isIo (some s0) = true) (h1 : isOA s1 = true) (h5 : isOA s5 = true) (hp : ps.length < line) (hr : row.length < line)
    (q : P.nx [s0, s1, .on (dss.set jj (row ++ [natD many])), .sh (.int ((many : Int) + 1)), .ow (ps ++ [.tup [.int at', .int many]]), s5, .al 2 jj (row ++ [natD many]), .sh (.int many), .sh (.int en), .sh (.int j), .top, .top, .top, .top, .top]) :
    dSs Γ (.cons (.app (.var 4) (.tup (.cons (.var 7) (.cons (.var 3) .nil))))
      (.cons (.apa 6 (.var 3))
      (.cons (.asg (.nm 7) (.var 3))
      (.cons (.asg (.nm 3) (.bin .add (.var 3) (.int 1)))
      .nil)))) [s0, s1, .on dss, .sh (.int many), .ow ps, s5, .al 2 jj row, .sh (.int at'), .sh (.int en), .sh (.int j), .top, .top, .top, .top, .top] P := by
  have hb : 1000000 < line := by decide
  refine ⟨rfl, by show 2 ≤ line; omega, hp, ?_⟩
  dsimp only [Po.sq]
  have e0 : ∀ x, upS 2 jj x 0 s0 = s0 := fun x => by cases s0 <;> first | rfl | cases h0
  have e1 : ∀ x, upS 2 jj x 1 s1 = s1 := fun x => by cases s1 <;> first | rfl | cases h1
  have e5 : ∀ x, upS 2 jj x 5 s5 = s5 := fun x => by cases s5 <;> first | rfl | cases h5
  have eo : ∀ x ds, upS 2 jj x 2 (.on ds) = .on (ds.set jj x) := fun x ds => rfl
  have ea : ∀ x ds, upS 2 jj x 6 (.al 2 jj ds) = .al 2 jj x := fun x ds => by simp [upS]
  have hu : upG 2 jj (row ++ [natD many]) [s0, s1, .on dss, .sh (.int many), .ow (ps ++ [.tup [.int at', .int many]]), s5, .al 2 jj row, .sh (.int at'), .sh (.int en), .sh (.int j), .top, .top, .top, .top, .top] = [s0, s1, .on (dss.set jj (row ++ [natD many])), .sh (.int many), .ow (ps ++ [.tup [.int at', .int many]]), s5, .al 2 jj (row ++ [natD many]), .sh (.int at'), .sh (.int en), .sh (.int j), .top, .top, .top, .top, .top] := by
    rw [upG_eq]
    simp only [List.mapIdx_cons, List.mapIdx_nil, Nat.zero_add, Nat.reduceAdd, e0, e1, e5, eo, ea]
    rfl
  refine r_apa (o := 2) (j := jj) (ds := row) (d := .int many) rfl rfl hr hu ?_
  exact ⟨rfl, rfl, q⟩
theorem ear_path (h : EarG Γ) {P : Po} {xs : List Int} {p m k jj at0 en many : Nat} {ps : List (Int × Int)} {rows : List (List Nat)} {row : List Nat} {s9 : Sl} (hl0 : 0 < xs.length) (hl : xs.length < line) (hs : small xs) (hpp : p + 100 < 1000000)
    (I : EarI many ps rows) (hr : rows[jj]? = some row) (ha : at0 < many) (he : en < many) (hmany : many ≤ 100) (hps : ps.length ≤ 100) (hrl : row.length ≤ 100) (h9 : isIo (some s9) = false)
    (hP : ∀ (rows' : List (List Nat)) (many' : Nat) (ps' : List (Int × Int)) (s6 s7 s8 s9 : Sl), EarI many' ps' rows' → rows'.length = rows.length → many' ≤ many + 2 → ps'.length ≤ ps.length + 3 → (∀ r ∈ rows', r.length ≤ row.length + 2 ∨ r ∈ rows) → isIo (some s6) = false → isIo (some s7) = false → isIo (some s8) = false → isIo (some s9) = false →
      P.nx [.io (stL xs (p + 1)), .sh (.int m), .on (rowsD rows'), .sh (.int many'), .ow (ps'.map pairD), .sh (.int k), s6, s7, s8, s9, .top, .top, .top, .top, .top]) :
    dSs Γ (.cons (.forr (.nm 9) (.rng (.cons (.call "_law_next" (.cons (.var 0) (.cons (.int 3) .nil))) .nil))
     (.cons (.app (.var 4) (.tup (.cons (.var 7) (.cons (.var 3) .nil))))
      (.cons (.apa 6 (.var 3))
      (.cons (.asg (.nm 7) (.var 3))
      (.cons (.asg (.nm 3) (.bin .add (.var 3) (.int 1)))
      .nil)))))
    (.cons (.app (.var 4) (.tup (.cons (.var 7) (.cons (.var 8) .nil))))
    .nil)) [.io (stL xs p), .sh (.int m), .on (rowsD rows), .sh (.int many), .ow (ps.map pairD), .sh (.int k), .al 2 jj (row.map natD), .sh (.int at0), .sh (.int en), s9, .top, .top, .top, .top, .top] P := by
  have hb : 1000000 < line := by decide
  have hb2 : line < 2 ^ 62 := by decide
  have hj := (List.getElem?_eq_some_iff.mp hr).1
  have rin : row ∈ rows := List.mem_of_getElem? hr
  conv => whnf
  rw [h.nx]
  refine ⟨(show ([0] : List Nat).Nodup by decide), fun i h1 h2 => (by cases h2), xs, p, 3, rfl, by omega, hl0, hl, hs, by omega, fun c hc => ?_⟩
  refine ⟨⟨by omega, by omega⟩, ?_⟩
  refine ⟨fun j ρ => ∃ (row' : List Nat) (at' many' : Nat) (ps' : List (Int × Int)) (s9 : Sl), ρ = [.io (stL xs (p + 1)), .sh (.int m), .on (rowsD (rows.set jj row')), .sh (.int many'), .ow (ps'.map pairD), .sh (.int k), .al 2 jj (row'.map natD), .sh (.int at'), .sh (.int en), s9, .top, .top, .top, .top, .top] ∧
    EarI many' ps' (rows.set jj row') ∧ at' < many' ∧ many' = many + j ∧ ps'.length = ps.length + j ∧ row'.length = row.length + j ∧ row' ≠ [] ∧ (∀ v ∈ row', v < many') ∧ isIo (some s9) = false,
    ⟨row, at0, many, ps, s9, by rw [set_self hr]; rfl, by rw [set_self hr]; exact I, ha, rfl, rfl, rfl, I.ne row rin, I.lt row rin, h9⟩, ?_, ?_⟩
  · rintro j ρ d hd ⟨row', at', many', ps', s9, rfl, I', ha', rfl, pl, rl, rne, rlt, i9⟩
    obtain ⟨hjk, rfl⟩ := getR hd
    have hjk : j < c := by omega
    refine ⟨i9, ?_⟩
    refine ear_step rfl rfl rfl (by rw [List.length_map]; omega) (by rw [List.length_map]; omega) ?_
    have ok' : okG (many + j + 1) (ps' ++ [((at' : Int), ((many + j : Nat) : Int))]) := okG_snoc (okG_mono I'.ok (Nat.le_succ _)) (by omega) (Nat.lt_succ_self _)
    have rlt' : ∀ v ∈ row' ++ [many + j], v < many + j + 1 := fun v hv => by
      rcases List.mem_append.mp hv with hv | hv
      · exact Nat.lt_succ_of_lt (rlt v hv)
      · rw [List.mem_singleton.mp hv]
        exact Nat.lt_succ_self _
    refine ⟨row' ++ [many + j], many + j, many + j + 1, ps' ++ [((at' : Int), ((many + j : Nat) : Int))], .sh (.int (0 + (j : Int))), ?_, ?_, Nat.lt_succ_self _, rfl, by rw [List.length_append, pl]; rfl, by rw [List.length_append, rl]; rfl, by simp, rlt', rfl⟩
    · rw [List.map_append, List.map_append, rowsD_set, rowsD_set, List.set_set, List.map_append]
      rfl
    · have := I'.set (j := jj) (r := row' ++ [many + j]) (Nat.le_succ _) ok' (by simp) rlt'
      rw [List.set_set] at this
      exact this
  · rintro ρ ⟨row', at', many', ps', s9, rfl, I', ha', rfl, pl, rl, rne, rlt, i9⟩
    have ec : (rngD 0 (c : Int)).length = c := by
      rw [rngD_len]
      omega
    rw [ec] at pl rl rlt ha' I'
    rw [ec]
    refine ⟨rfl, ?_⟩
    refine ⟨by show 2 ≤ line; omega, by rw [List.length_map]; omega, ?_⟩
    have := hP (rows.set jj row') (many + c) (ps' ++ [((at' : Int), (en : Int))]) (.al 2 jj (row'.map natD)) (.sh (.int at')) (.sh (.int en)) s9 ⟨I'.pos, okG_snoc I'.ok ha' (by omega), I'.ne, I'.lt⟩ (by rw [List.length_set]) (by omega) (by rw [List.length_append, pl]; show _ + 1 ≤ _; omega) (fun r hr => by
      rcases List.mem_or_eq_of_mem_set hr with hr | rfl
      · exact .inr hr
      · exact .inl (by omega)) rfl rfl rfl i9
    rw [List.map_append] at this
    exact this
theorem p_by_ears (h : EarG Γ) : ∀ ds Q X, earsF.sp ds Q X → dDef Γ [.io, .sh] 13 b_law_by_ears ds Q X := by
  rintro ds Q X ⟨xs, p, m, rfl, hl0, hl, hs, hm, hp, q⟩
  have hb : 1000000 < line := by decide
  have hb2 : line < 2 ^ 62 := by decide
  refine ⟨by show 1 ≤ line; omega, (show 2 < 15 by decide), rfl, ?_⟩
  refine ⟨rfl, Nat.zero_le _, rfl, ?_⟩
  conv => whnf
  rw [h.nx]
  refine ⟨(show ([0] : List Nat).Nodup by decide), fun i h1 h2 => (by cases h2), xs, p, m + 1, rfl, by omega, hl0, hl, hs, by omega, fun c hc => ?_⟩
  refine ⟨⟨by omega, by omega⟩, ?_⟩
  refine ⟨EarW xs p m,
    ⟨[[0]], 1, [], p + 1, .top, .top, .top, .top, .top, rfl, ⟨by decide, fun p h => (by cases h), by simp, by simp⟩, by decide, by decide, by decide, by decide, by simp, Nat.le_refl _, rfl, rfl, rfl, rfl, rfl⟩, ?_, ?_⟩
  · rintro k ρ d hd ⟨rows, many, ps, p', s5, s6, s7, s8, s9, rfl, I, r0, rk, mk, pk, lk, hp', i5, i6, i7, i8, i9⟩
    obtain ⟨hk, rfl⟩ := getR hd
    have hk : k < c := by omega
    rw [Int.zero_add]
    refine ⟨i5, ?_⟩
    conv => whnf
    rw [h.nx]
    refine ⟨(show ([0] : List Nat).Nodup by decide), fun i h1 h2 => (by cases h2), xs, p', 8, rfl, by omega, hl0, hl, hs, by omega, fun r hr => ?_⟩
    -- the row that is taken, and the path
    have go : ∀ (P' : Po) (rows : List (List Nat)) (many : Nat) (dss : List (List D)), dss = rowsD rows → (∀ ρ, EarW xs p m (k + 1) ρ → P'.nx ρ) → EarI many ps rows → 0 < rows.length → rows.length ≤ k + 2 → many ≤ 2 + 3 * k → (∀ r ∈ rows, r.length ≤ 1 + 3 * k) →
        dSs Γ (.cons (.ali 6 2 (.call "_law_next" (.cons (.var 0) (.cons (.leno 2) .nil))))
    (.cons (.asg (.nm 7) (.ix (.var 6) (.call "_law_next" (.cons (.var 0) (.cons (.bi .len (.cons (.var 6) .nil)) .nil)))))
    (.cons (.asg (.nm 8) (.ix (.var 6) (.call "_law_next" (.cons (.var 0) (.cons (.bi .len (.cons (.var 6) .nil)) .nil)))))
    (.cons (.forr (.nm 9) (.rng (.cons (.call "_law_next" (.cons (.var 0) (.cons (.int 3) .nil))) .nil))
     (.cons (.app (.var 4) (.tup (.cons (.var 7) (.cons (.var 3) .nil))))
      (.cons (.apa 6 (.var 3))
      (.cons (.asg (.nm 7) (.var 3))
      (.cons (.asg (.nm 3) (.bin .add (.var 3) (.int 1)))
      .nil)))))
    (.cons (.app (.var 4) (.tup (.cons (.var 7) (.cons (.var 8) .nil))))
    .nil))))) [.io (stL xs (p' + 1)), .sh (.int m), .on dss, .sh (.int many), .ow (ps.map pairD), .sh (.int k), s6, s7, s8, s9, .top, .top, .top, .top, .top] P' := by
      rintro P' rows many dss rfl hP' I r0 rk mk lk
      conv => whnf
      rw [h.nx]
      refine ⟨(show ([0] : List Nat).Nodup by decide), fun i h1 h2 => (by cases h2), xs, p' + 1, (rowsD rows).length, rfl, by unfold rowsD; rw [List.length_map]; exact r0, hl0, hl, hs, by omega, fun j hj => ?_⟩
      have rlen : (rowsD rows).length = rows.length := by
        unfold rowsD
        rw [List.length_map]
      rw [rlen] at hj
      have e1 : rows[j]? = some rows[j] := List.getElem?_eq_getElem hj
      have e2 : (rowsD rows)[j]? = some (rows[j].map natD) := by
        unfold rowsD
        rw [List.getElem?_map, e1] <;> rfl
      have rin := List.getElem_mem hj
      refine w1_at (x := j) (by rw [rlen]; exact ixN_at (v := (j : Int)) (by omega) (by omega)) ?_
      refine w1_at e2 ?_
      generalize hrow : rows[j] = row at e1 rin
      have rne := I.ne row rin
      have rl := lk row rin
      have rpos : 0 < row.length := List.length_pos_iff.mpr rne
      have at_ : ∀ i, i < row.length → dIx (.lst (row.map natD)) (.int (i : Int)) = some (.int (row.getD i 0 : Nat)) ∧ row.getD i 0 < many := fun i hi => by
        have e : row.getD i 0 = row[i] := by
          rw [List.getD_eq_getElem?_getD, List.getElem?_eq_getElem hi] <;> rfl
        refine ⟨lst_at (by rw [List.getElem?_map, List.getElem?_eq_getElem hi, e]; rfl), ?_⟩
        rw [e]
        exact I.lt row rin _ (List.getElem_mem hi)
      refine ⟨by decide, i6, ?_⟩
      conv => whnf
      rw [h.nx]
      refine ⟨(show ([0] : List Nat).Nodup by decide), fun i h1 h2 => (by cases h2), xs, p' + 1 + 1, (row.map natD).length, rfl, by rw [List.length_map]; exact rpos, hl0, hl, hs, by omega, fun a ha => ?_⟩
      rw [List.length_map] at ha
      refine w1_at (x := .lst (row.map natD)) rfl ?_
      refine w1_at rfl ?_
      refine w1_at (at_ a ha).1 ?_
      refine ⟨i7, ?_⟩
      conv => whnf
      rw [h.nx]
      refine ⟨(show ([0] : List Nat).Nodup by decide), fun i h1 h2 => (by cases h2), xs, p' + 1 + 1 + 1, (row.map natD).length, rfl, by rw [List.length_map]; exact rpos, hl0, hl, hs, by omega, fun b hb' => ?_⟩
      rw [List.length_map] at hb'
      refine w1_at (x := .lst (row.map natD)) rfl ?_
      refine w1_at rfl ?_
      refine w1_at (at_ b hb').1 ?_
      refine ⟨i8, ?_⟩
      refine ear_path h hl0 hl hs (by omega) I e1 (at_ a ha).2 (at_ b hb').2 (by omega) (by omega) (by omega) i9 fun rows' many' ps' s6 s7 s8 s9 I' rl' ml pl rr j6 j7 j8 j9 => ?_
      refine hP' _ ⟨rows', many', ps', _, _, s6, s7, s8, s9, rfl, I', by omega, by omega, by omega, by omega, fun r hr => ?_, by omega, rfl, j6, j7, j8, j9⟩
      rcases rr r hr with z | z
      · omega
      · have := lk r z
        omega
    by_cases h0 : (r : Int) = 0
    · refine ite_t (decide_eq_true h0) ?_
      refine ⟨by show 1 ≤ line; omega, by unfold rowsD; rw [List.length_map]; omega, rfl, ?_⟩
      refine go _ (rows ++ [[many]]) (many + 1) (rowsD rows ++ [[natD many]]) (by unfold rowsD; rw [List.map_append]; rfl) (fun ρ z => ?_) ⟨by omega, okG_mono I.ok (Nat.le_succ _), fun r hr => ?_, fun r hr v hv => ?_⟩ (by simp) (by rw [List.length_append]; show _ + 1 ≤ _; omega) (by omega) (fun r hr => ?_)
      · exact z
      · rcases List.mem_append.mp hr with hr | hr
        · exact I.ne r hr
        · rw [List.mem_singleton.mp hr]
          simp
      · rcases List.mem_append.mp hr with hr | hr
        · exact Nat.lt_succ_of_lt (I.lt r hr v hv)
        · rw [List.mem_singleton.mp hr] at hv
          rw [List.mem_singleton.mp hv]
          exact Nat.lt_succ_self _
      · rcases List.mem_append.mp hr with hr | hr
        · exact lk r hr
        · rw [List.mem_singleton.mp hr]
          show 1 ≤ _
          omega
    · refine ite_f (by simpa using h0) ?_
      refine go _ rows many _ rfl (fun ρ z => ?_) I r0 (by omega) (by omega) lk
      exact z
  · rintro ρ ⟨rows, many, ps, p', s5, s6, s7, s8, s9, rfl, I, r0, rk, mk, pk, lk, hp', i5, i6, i7, i8, i9⟩
    have ec : (rngD 0 (c : Int)).length = c := by
      rw [rngD_len]
      omega
    rw [ec] at rk mk pk lk hp'
    refine ear_end h hl0 hl hs (by omega) (by omega) (by omega) I.ok fun qs p'' ρ' ql qok hp'' e0 el => ?_
    have h0 : ∃ t, ρ' = .io (stL xs p'') :: t := by
      cases ρ' with
      | nil => cases el
      | cons a t =>
        cases e0
        exact ⟨t, rfl⟩
    obtain ⟨t, rfl⟩ := h0
    exact ⟨_, _, rfl, rfl, q many qs p'' I.pos (by omega) (by omega) qok (by omega)⟩
end
end M
set_option linter.all false
set_option Elab.async false
set_option maxRecDepth 10000
set_option maxHeartbeats 4000000
/-! TagA: a text and an integer in a tuple, and their repr; texts compared. -/
namespace M
open PySem PySem.Spec PyProof.Rows L2 C8
def tagD (s : Str) (i : Int) : D := .tup [.str s, .int i]
theorem tag_ok {s : Str} {i : Int} (h1 : PyData.strOk s = true) (h2 : (reprText s).length ≤ 20) (h3 : big i) : (∀ k, D.pl (k + 1) (tagD s i) = true) ∧ (tagD s i).rok = true ∧ (tagD s i).rw ≤ 200 := by
  have lg := big_log h3
  refine ⟨fun k => ?_, ?_, ?_⟩
  · have e : D.pl k (.str s) = true := by cases k <;> exact h1
    have e2 : D.pl k (.int i) = true := by cases k <;> rfl
    show (D.pl k (.str s) && (D.pl k (.int i) && true)) = true
    rw [e, e2] <;> rfl
  · show (true && (decide (i.natAbs.log2 < 1900) && true)) = true
    rw [decide_eq_true (by omega)] <;> rfl
  · show (reprText s).length + 2 + (i.natAbs.log2 + 2 + 2 + 0) + 3 ≤ 200
    omega
theorem tag_rp {s : Str} {i : Int} (h1 : PyData.strOk s = true) (h2 : (reprText s).length ≤ 20) (h3 : big i) : Rp (tagD s i) := by
  obtain ⟨a, b, c⟩ := tag_ok h1 h2 h3
  exact ⟨a 19, b, Nat.le_trans c (by decide)⟩
theorem tag_rps {l : List (Str × Int)} (h : ∀ x ∈ l, PyData.strOk x.1 = true ∧ (reprText x.1).length ≤ 20 ∧ big x.2) (hl : l.length ≤ 100) : Rp (.lst (l.map fun x => tagD x.1 x.2)) := by
  refine rp_lst (c := 200) (fun d hd => ?_) (by rw [List.length_map]; exact Nat.le_trans (show (200 + 2) * l.length + 3 ≤ 202 * 100 + 3 by omega) (by decide))
  obtain ⟨x, hx, rfl⟩ := List.mem_map.mp hd
  obtain ⟨a, b, c⟩ := h x hx
  obtain ⟨e1, e2, e3⟩ := tag_ok a b c
  exact ⟨e1 18, e2, e3⟩
theorem s_row : PyData.strOk ("row" : Str) = true ∧ (reprText ("row" : Str)).length ≤ 20 := by decide +kernel
theorem s_vertex : PyData.strOk ("vertex" : Str) = true ∧ (reprText ("vertex" : Str)).length ≤ 20 := by decide +kernel
theorem s_modulus : PyData.strOk ("modulus" : Str) = true ∧ (reprText ("modulus" : Str)).length ≤ 20 := by decide +kernel
theorem strNe {a b : Str} (h : a = b) : dCm .ne (.str a) (.str b) = some false := by
  subst h
  exact congrArg some (by rw [decide_eq_true rfl] <;> rfl)
theorem strEq {a b : Str} (h : a = b) : dCm .eq (.str a) (.str b) = some true := congrArg some (decide_eq_true h)
end M
set_option linter.all false
set_option Elab.async false
set_option maxRecDepth 10000
/-! FsB: the bodies of find_steps and its like, printed by gen.py -/
namespace M
open PySem (Str PyData)
/-- find_steps: 0 graph 1 start 2 goals 3 signs 4 came 5 queue 6 at 7 here 8 step 9 last -/
def b_find_steps : Ss :=
  (.cons (.asg (.nm 4) (.dc1 1))
  (.cons (.asg (.nm 5) (.lst (.cons (.var 1) .nil)))
  (.cons (.asg (.nm 6) (.int 0))
  (.cons (.whl (.cmp .lt (.var 6) (.bi .len (.cons (.var 5) .nil)))
   (.cons (.asg (.nm 7) (.ix (.var 5) (.var 6)))
    (.cons (.aug 6 .add (.int 1))
    (.cons (.iff (.ex (.ix (.var 2) (.var 7)))
     (.cons (.ret (.call "_back" (.cons (.var 4) (.cons (.var 7) .nil))))
      .nil)
     .nil)
    (.cons (.forr (.tp (.nm 8) (.tp (.nm 9) .tz)) (.ex (.call "steps_from" (.cons (.var 0) (.cons (.var 7) (.cons (.var 3) .nil)))))
     (.cons (.iff (.ex (.din true (.var 9) 4))
       (.cons (.dst 4 (.var 9) (.tup (.cons (.var 7) (.cons (.var 8) .nil))))
        (.cons (.app (.var 5) (.var 9))
        .nil))
       .nil)
      .nil))
    .nil)))))
  (.cons (.ret .non)
  .nil)))))
def n_find_steps : List Str := ["graph", "start", "goals", "signs", "came", "queue", "at", "here", "step", "last"]
/-- _back: 0 came 1 last 2 steps 3 step -/
def b_back : Ss :=
  (.cons (.asg (.nm 2) (.lst .nil))
  (.cons (.whl (.cmp .isnot (.dg 0 (.var 1)) .non)
   (.cons (.asg (.tp (.nm 1) (.tp (.nm 3) .tz)) (.dg 0 (.var 1)))
    (.cons (.app (.var 2) (.var 3))
    .nil)))
  (.cons (.ret (.rev (.var 2)))
  .nil)))
def n_back : List Str := ["came", "last", "steps", "step"]
end M
set_option linter.all false
set_option Elab.async false
set_option maxRecDepth 10000
set_option maxHeartbeats 4000000
/-! FsP: _back. -/
namespace M
open PySem PySem.Spec PyProof.Rows L2 C8
/-- the steps that the dict tells, from its root on -/
inductive Ch (kvs : List (Int × D)) : List (Int × Int) → Int → Prop where
  | nil {v : Int} : atK kvs v = some .non → Ch kvs [] v
  | snoc {u v : Int} {xs : List (Int × Int)} {y : Int × Int} : Ch kvs xs u → atK kvs v = some (.tup [.int u, pairD y]) → Ch kvs (xs ++ [y]) v
section
variable {Γ : Tb}
def backF : Fn := ⟨[.bo, .sh], fun ds Q _ => ∃ (kvs : List (Int × D)) (v : Int) (xs : List (Int × Int)), ds = [.dct kvs, .int v] ∧ Ch kvs xs v ∧ xs.length < line ∧ Q (.fr (xs.map pairD)) []⟩
theorem p_back : ∀ ds Q X, backF.sp ds Q X → dDef Γ [.bo, .sh] 2 b_back ds Q X := by
  rintro ds Q X ⟨kvs, v, xs, rfl, hc, hl, q⟩
  refine ⟨(show 0 ≤ line by decide), rfl, ?_⟩
  refine ⟨fun m ρ => ∃ (ys zs : List (Int × Int)) (u : Int) (s3 : Sl), ρ = [.bd kvs, .sh (.int u), .ow (zs.reverse.map pairD), s3] ∧ isIo (some s3) = false ∧ m = ys.length ∧ Ch kvs ys u ∧ xs = ys ++ zs, ⟨_, xs, [], v, .top, rfl, rfl, rfl, hc, by simp⟩, ?_⟩
  rintro m ρ ⟨ys, zs, u, s3, rfl, i3, rfl, hy, e⟩
  cases hy with
  | nil h =>
    refine w1_at h ?_
    refine w1_at rfl ?_
    refine w1_at rfl ?_
    refine w1_at rfl ?_
    have e : xs = zs := e
    subst e
    refine ⟨_, _, rfl, rfl, ?_⟩
    rw [List.map_reverse, List.reverse_reverse]
    exact q
  | snoc h1 h2 =>
    refine w1_at h2 ?_
    refine w1_at h2 ?_
    rename_i u' ys' y
    refine ⟨rfl, i3, rfl, ?_⟩
    have hz : (zs.reverse.map pairD).length < line := by
      rw [e] at hl
      simp only [List.length_append, List.length_map, List.length_reverse] at hl ⊢
      omega
    refine ⟨rfl, hz, ys'.length, ?_, ys', y :: zs, u', .sh (pairD y), ?_, rfl, rfl, h1, ?_⟩
    · rw [List.length_append, List.length_singleton]
      omega
    · rw [List.reverse_cons, List.map_append] <;> rfl
    · rw [e, List.append_assoc] <;> rfl
end
end M
set_option linter.all false
set_option Elab.async false
set_option maxRecDepth 10000
set_option maxHeartbeats 4000000
/-! FsQ: find_steps. -/
namespace M
open PySem PySem.Spec PyProof.Rows L2 C8
/-- a way along the steps, with the vertices that it meets -/
inductive Way (ps : List (Int × Int)) (ss : List (List Int)) (a : Nat) : List (Int × Int) → List Nat → Nat → Prop where
  | nil : Way ps ss a [] [a] a
  | snoc {u v : Nat} {xs : List (Int × Int)} {vs : List Nat} {y : Int × Int} : Way ps ss a xs vs u → (y, ((v : Nat) : Int)) ∈ stepsG ps ss u → Way ps ss a (xs ++ [y]) (vs ++ [v]) v
section
variable {ps : List (Int × Int)} {ss : List (List Int)} {a : Nat}
theorem Way.len {xs : List (Int × Int)} {vs : List Nat} {g : Nat} (h : Way ps ss a xs vs g) : vs.length = xs.length + 1 := by
  induction h with
  | nil => rfl
  | snoc h1 h2 ih => rw [List.length_append, List.length_append, ih] <;> rfl
theorem Way.last {xs : List (Int × Int)} {vs : List Nat} {g : Nat} (h : Way ps ss a xs vs g) : vs = vs.dropLast ++ [g] := by
  cases h with
  | nil => rfl
  | snoc h1 h2 => rw [List.dropLast_concat]
theorem Way.reach {xs : List (Int × Int)} {vs : List Nat} {g : Nat} (h : Way ps ss a xs vs g) : Reach ps ss a g := by
  induction h with
  | nil => exact .refl
  | snoc h1 h2 ih => exact .step ih h2 rfl
end
theorem atK_add {kvs : List (Int × D)} {k v : Int} {d e : D} (h : atK kvs k = some d) : atK (kvs ++ [(v, e)]) k = some d := by
  unfold atK at h ⊢
  obtain ⟨kv, h1, h2⟩ := Option.map_eq_some_iff.mp h
  rw [List.find?_append, h1]
  exact congrArg some h2
theorem atK_new {kvs : List (Int × D)} {v : Int} {e : D} (h : atK kvs v = none) : atK (kvs ++ [(v, e)]) v = some e := by
  unfold atK at h ⊢
  rw [List.find?_append, Option.map_eq_none_iff.mp h]
  simp
theorem atK_old {kvs : List (Int × D)} {k v : Int} {e : D} (h : k ≠ v) : atK (kvs ++ [(v, e)]) k = atK kvs k := by
  unfold atK
  rw [List.find?_append]
  have : List.find? (fun kv : Int × D => decide (kv.1 = k)) [(v, e)] = none := by simp [Ne.symm h]
  rw [this, Option.or_none]
theorem putI_new {kvs : List (Int × D)} {v : Int} {e : D} (h : atK kvs v = none) : putI kvs v e = kvs ++ [(v, e)] := by
  unfold putI
  rw [if_neg]
  unfold atK at h
  have h1 := List.find?_eq_none.mp (Option.map_eq_none_iff.mp h)
  simp only [List.any_eq_true, not_exists, not_and]
  exact fun x hx => h1 x hx
theorem Ch.add {kvs : List (Int × D)} {v : Int} {e : D} {xs : List (Int × Int)} {u : Int} (h : Ch kvs xs u) : Ch (kvs ++ [(v, e)]) xs u := by
  induction h with
  | nil h => exact .nil (atK_add h)
  | snoc h1 h2 ih => exact .snoc ih (atK_add h2)
/-- what holds between the rounds -/
structure Bfs (n : Nat) (ps : List (Int × Int)) (ss : List (List Int)) (gs : List Bool) (a : Nat) (es : List Nat) (kvs : List (Int × D)) : Prop where
  lt : ∀ e ∈ es, e < n
  nd : es.Nodup
  kl : kvs.length = es.length
  ky : ∀ v : Nat, (atK kvs v).isSome = true ↔ v ∈ es
  st : a ∈ es
  ch : ∀ v ∈ es, ∃ xs vs, Ch kvs xs v ∧ Way ps ss a xs vs v ∧ vs.Nodup ∧ (∀ u ∈ vs, u ∈ es) ∧ ∀ u ∈ vs.dropLast, gs[u]? = some false
theorem Bfs.add {n : Nat} {ps : List (Int × Int)} {ss : List (List Int)} {gs : List Bool} {a u v : Nat} {es : List Nat} {kvs : List (Int × D)} {y : Int × Int} (B : Bfs n ps ss gs a es kvs) (hv : v < n) (hn : v ∉ es) (hu : u ∈ es) (hg : gs[u]? = some false)
    (hy : (y, ((v : Nat) : Int)) ∈ stepsG ps ss u) : Bfs n ps ss gs a (es ++ [v]) (kvs ++ [((v : Int), .tup [.int u, pairD y])]) := by
  have no : atK kvs v = none := by
    have := mt (B.ky v).mp hn
    simpa using this
  refine ⟨fun e h => ?_, ?_, ?_, fun w => ?_, List.mem_append_left _ B.st, fun w hw => ?_⟩
  · rcases List.mem_append.mp h with h | h
    · exact B.lt e h
    · rw [List.mem_singleton.mp h]
      exact hv
  · rw [List.nodup_append]
    exact ⟨B.nd, by simp, fun x hx z hz e => hn (by rw [← List.mem_singleton.mp hz, ← e]; exact hx)⟩
  · rw [List.length_append, List.length_append, B.kl] <;> rfl
  · by_cases e : w = v
    · subst e
      rw [atK_new no]
      simp
    · rw [atK_old (by omega), B.ky]
      simp [e]
  · rcases List.mem_append.mp hw with h | h
    · obtain ⟨xs, vs, h1, h2, h3, h4, h5⟩ := B.ch w h
      exact ⟨xs, vs, h1.add, h2, h3, fun x hx => List.mem_append_left _ (h4 x hx), h5⟩
    · cases List.mem_singleton.mp h
      obtain ⟨xs, vs, h1, h2, h3, h4, h5⟩ := B.ch u hu
      refine ⟨xs ++ [y], vs ++ [v], .snoc h1.add (atK_new no), .snoc h2 hy, ?_, fun x hx => ?_, fun x hx => ?_⟩
      · rw [List.nodup_append]
        exact ⟨h3, by simp, fun x hx z hz e => hn (by rw [← List.mem_singleton.mp hz, ← e]; exact h4 x hx)⟩
      · rcases List.mem_append.mp hx with h | h
        · exact List.mem_append_left _ (h4 x h)
        · exact List.mem_append_right _ h
      · rw [List.dropLast_concat, h2.last] at hx
        rcases List.mem_append.mp hx with h | h
        · exact h5 x h
        · rw [List.mem_singleton.mp h]
          exact hg
section
variable {Γ : Tb}
structure FsG (Γ : Tb) : Prop where
  bk : Γ.f "_back" = some backF
  st : Γ.f "steps_from" = some stepsF
def findF : Fn := ⟨[.sh, .sh, .bo, .bo], fun ds Q _ => ∃ (n : Nat) (ps : List (Int × Int)) (a : Nat) (gs : List Bool) (ss : List (List Int)), ds = [graphD n ps, .int a, .lst (gs.map D.bl), .lst (ss.map signD)] ∧ a < n ∧ gs.length = n ∧ okG n ps ∧ n < line ∧ ss.length = ps.length ∧ (∀ l ∈ ss, l.length ≤ 2) ∧ 2 * ps.length + 2 < line ∧
  ((∀ v, Reach ps ss a v → gs[v]? = some false) → Q (.sh .non) []) ∧
  ∀ (xs : List (Int × Int)) (vs : List Nat) (g : Nat), Way ps ss a xs vs g → vs.Nodup → (∀ v ∈ vs, v < n) → gs[g]? = some true → (∀ u ∈ vs.dropLast, gs[u]? = some false) → Q (.fr (xs.map pairD)) []⟩
theorem p_find (hf : FsG Γ) : ∀ ds Q X, findF.sp ds Q X → dDef Γ [.sh, .sh, .bo, .bo] 6 b_find_steps ds Q X := by
  rintro ds Q X ⟨n, ps, a, gs, ss, rfl, ha, hgs, ok, hn, hss, h2, hl, qn, qf⟩
  have hb : line < 2 ^ 62 := by decide
  refine ⟨rfl, ?_⟩
  refine ⟨(show 1 ≤ line by decide), rfl, ?_⟩
  refine ⟨rfl, ?_⟩
  refine ⟨fun m ρ => ∃ (es : List Nat) (k : Nat) (kvs : List (Int × D)) (s7 s8 s9 : Sl), ρ = [.sh (graphD n ps), .sh (.int a), .bo (gs.map D.bl), .bo (ss.map signD), .dc kvs, .ow (es.map natD), .sh (.int k), s7, s8, s9] ∧ isIo (some s7) = false ∧ isIo (some s8) = false ∧ isIo (some s9) = false ∧
    m = n - k ∧ k ≤ es.length ∧ Bfs n ps ss gs a es kvs ∧ ∀ i, i < k → ∃ u, es[i]? = some u ∧ gs[u]? = some false ∧ ∀ x ∈ stepsG ps ss u, ∃ v ∈ es, x.2 = ((v : Nat) : Int), ⟨_, [a], 0, [((a : Nat), .non)], .top, .top, .top, rfl, rfl, rfl, rfl, rfl, by simp, ?_, fun i h => (by omega)⟩, ?_⟩
  · refine ⟨fun e h => ?_, by simp, rfl, fun v => ?_, by simp, fun v h => ?_⟩
    · rw [List.mem_singleton.mp h]
      exact ha
    · unfold atK
      by_cases e : v = a
      · subst e
        simp
      · have : ¬ (a : Int) = (v : Int) := by omega
        simp [e, this]
    · rw [List.mem_singleton.mp h]
      refine ⟨[], [a], .nil (by simp [atK]), .nil, by simp, fun u h => h, fun u h => (by simp at h)⟩
  · rintro m ρ ⟨es, k, kvs, s7, s8, s9, rfl, i7, i8, i9, rfl, hk, B, dn⟩
    have hle := nodup_le B.nd B.lt
    by_cases hlt : k < es.length
    · refine w1_at rfl ?_
      refine w1_at rfl ?_
      refine w1_at rfl ?_
      refine ite_t (show decide ((k : Int) < ((es.map natD).length : Int)) = true from by simp [hlt]) ?_
      have hw : es[k] ∈ es := List.getElem_mem hlt
      generalize hwe : es[k] = w at hw
      have hwn := B.lt w hw
      refine w1_at (lst_at (d := natD w) (by rw [List.getElem?_map, List.getElem?_eq_getElem hlt, hwe] <;> rfl)) ?_
      refine ⟨i7, ?_⟩
      refine ⟨rfl, ?_⟩
      have hgw : gs[w]? = some gs[w] := List.getElem?_eq_getElem (by omega)
      generalize hge : gs[w] = b at hgw
      refine w1_at (lst_at (d := D.bl b) (by rw [List.getElem?_map, hgw] <;> rfl)) ?_
      refine w1_at rfl ?_
      refine w1_at (show dTru (D.bl b) = some b from rfl) ?_
      cases b with
      | true =>
        refine ite_t (show true = true from rfl) ?_
        conv => whnf
        rw [hf.bk]
        obtain ⟨xs, vs, h1, h2, h3, h4, h5⟩ := B.ch w hw
        have hv := nodup_le h3 fun u hu => B.lt u (h4 u hu)
        refine ⟨List.nodup_nil, fun _ h => (by cases h), kvs, w, xs, rfl, h1, by have := h2.len; omega, ?_⟩
        exact ⟨_, _, rfl, rfl, qf xs vs w h2 h3 (fun u hu => B.lt u (h4 u hu)) hgw h5⟩
      | false =>
        refine ite_f (show ¬ false = true by decide) ?_
        conv => whnf
        rw [hf.st]
        refine ⟨List.nodup_nil, fun _ h => (by cases h), n, ps, w, ss, rfl, hwn, hss, h2, hl, ?_⟩
        generalize hst : stepsG ps ss (w : Int) = st
        refine ⟨fun j ρ => ∃ (es' : List Nat) (kvs' : List (Int × D)) (s8 s9 : Sl), ρ = [.sh (graphD n ps), .sh (.int a), .bo (gs.map D.bl), .bo (ss.map signD), .dc kvs', .ow (es'.map natD), .sh (.int ((k : Int) + 1)), .sh (.int w), s8, s9] ∧ isIo (some s8) = false ∧ isIo (some s9) = false ∧
          Bfs n ps ss gs a es' kvs' ∧ (∃ ts, es' = es ++ ts) ∧ ∀ x ∈ st.take j, ∃ v ∈ es', x.2 = ((v : Nat) : Int),
          ⟨es, kvs, s8, s9, rfl, i8, i9, B, ⟨[], by simp⟩, fun x h => (by cases h)⟩, ?_, ?_⟩
        · rintro j ρ d hd ⟨es', kvs', s8, s9, rfl, i8, i9, B', ⟨ts, hts⟩, done⟩
          rw [List.getElem?_map] at hd
          obtain ⟨x, hx, rfl⟩ := Option.map_eq_some_iff.mp hd
          have hk := (List.getElem?_eq_some_iff.mp hx).1
          have hmem : x ∈ stepsG ps ss (w : Int) := by
            rw [hst]
            exact List.mem_of_getElem? hx
          obtain ⟨v, hv1, hv2⟩ := steps_lt ok hmem
          have hsn : st.take (j + 1) = st.take j ++ [x] := by
            rw [List.take_succ_eq_append_getElem hk, (List.getElem?_eq_some_iff.mp hx).2]
          obtain ⟨y, z⟩ := x
          have hv1 : z = (v : Int) := hv1
          subst hv1
          refine ⟨i8, i9, rfl, ?_⟩
          by_cases hin : v ∈ es'
          · have hat := (B'.ky v).mpr hin
            refine w1_at rfl ?_
            refine w1_at rfl ?_
            refine ite_f (show ¬ ((atK kvs' v).isSome != true) = true by rw [hat] <;> decide) ?_
            refine ⟨es', kvs', _, _, rfl, rfl, rfl, B', ⟨ts, hts⟩, fun x' h => ?_⟩
            rw [hsn, List.mem_append] at h
            rcases h with h | h
            · exact done x' h
            · rw [List.mem_singleton.mp h]
              exact ⟨v, hin, rfl⟩
          · have hat : atK kvs' (v : Int) = none := by
              have := mt (B'.ky v).mp hin
              simpa using this
            refine w1_at rfl ?_
            refine w1_at rfl ?_
            refine ite_t (show ((atK kvs' v).isSome != true) = true by rw [hat] <;> decide) ?_
            have hle' := nodup_le B'.nd B'.lt
            have B2 := B'.add hv2 hin (by rw [hts]; exact List.mem_append_left _ hw) hgw hmem
            refine ⟨(show 2 ≤ line by decide), ?_⟩
            have kln : kvs'.length < line := by
              rw [B'.kl]
              have := B2.nd
              have h := nodup_le B2.nd B2.lt
              rw [List.length_append, List.length_singleton] at h
              omega
            have wl : (es'.map natD).length < line := by
              rw [List.length_map, ← B'.kl]
              exact kln
            refine ⟨kln, ?_⟩
            rw [putI_new hat]
            refine ⟨rfl, wl, es' ++ [v], kvs' ++ [((v : Int), .tup [.int w, pairD y])], .sh (pairD y), .sh (.int v), ?_, rfl, rfl, B2, ⟨ts ++ [v], by rw [hts, List.append_assoc]⟩, fun x' h => ?_⟩
            · rw [List.map_append] <;> rfl
            · rw [hsn, List.mem_append] at h
              rcases h with h | h
              · obtain ⟨u, hu, eu⟩ := done x' h
                exact ⟨u, List.mem_append_left _ hu, eu⟩
              · rw [List.mem_singleton.mp h]
                exact ⟨v, List.mem_append_right _ (List.mem_singleton.mpr rfl), rfl⟩
        · rintro ρ ⟨es', kvs', s8, s9, rfl, i8, i9, B', ⟨ts, hts⟩, done⟩
          rw [List.length_map, List.take_length] at done
          refine ⟨n - (k + 1), by omega, es', k + 1, kvs', .sh (.int w), s8, s9, rfl, rfl, i8, i9, rfl, ?_, B', fun i hi => ?_⟩
          · rw [hts, List.length_append]
            omega
          · by_cases hik : i = k
            · subst hik
              refine ⟨w, ?_, hgw, fun x hx => done x (by rw [← hst]; exact hx)⟩
              rw [hts, List.getElem?_append_left hlt, List.getElem?_eq_getElem hlt, hwe]
            · obtain ⟨u, e1, e2, e3⟩ := dn i (by omega)
              refine ⟨u, ?_, e2, fun x hx => ?_⟩
              · rw [hts, List.getElem?_append_left (by omega), e1]
              · obtain ⟨v, hv, e⟩ := e3 x hx
                exact ⟨v, by rw [hts]; exact List.mem_append_left _ hv, e⟩
    · refine w1_at rfl ?_
      refine w1_at rfl ?_
      refine w1_at rfl ?_
      refine ite_f (show ¬ decide ((k : Int) < ((es.map natD).length : Int)) = true from by simp; omega) ?_
      refine ⟨_, _, rfl, rfl, qn fun v h => ?_⟩
      have hm : v ∈ es := by
        induction h with
        | refl => exact B.st
        | step h1 h2 h3 ih =>
          obtain ⟨i, hi, e⟩ := List.getElem_of_mem ih
          obtain ⟨u, e1, _, e2⟩ := dn i (by omega)
          rw [List.getElem?_eq_getElem hi, e] at e1
          cases e1
          obtain ⟨v', m', e'⟩ := e2 _ h2
          rw [h3] at e'
          rw [Int.ofNat_inj.mp e']
          exact m'
      obtain ⟨i, hi, e⟩ := List.getElem_of_mem hm
      obtain ⟨u, e1, e2, _⟩ := dn i (by omega)
      rw [List.getElem?_eq_getElem hi, e] at e1
      cases e1
      exact e2
end
end M
set_option linter.all false
set_option Elab.async false
set_option maxRecDepth 10000
/-! K14B: the bodies of k14's defs, printed by gen.py (the list in lift's comprehension lent by hand) -/
namespace M
open PySem (Str PyData)
/-- refuse_unbalanced: 0 graph 1 row 2 modulus 3 vertex 4 rest -/
def b_refuse_unbalanced : Ss :=
  (.cons (.forr (.tp (.nm 3) (.tp (.nm 4) .tz)) (.enu (.call "imbalances" (.cons (.var 0) (.cons (.var 1) .nil))))
   (.cons (.iff (.and (.cons (.cmp .ne (.var 4) (.int 0)) (.cons (.or (.cons (.cmp .eq (.var 2) (.int 0)) (.cons (.cmp .ne (.bin .mod (.var 4) (.var 2)) (.int 0)) .nil))) .nil)))
     (.cons (.rais "Unbalanced" (.cons (.var 3) .nil))
      .nil)
     .nil)
    .nil))
  .nil)
def n_refuse_unbalanced : List Str := ["graph", "row", "modulus", "vertex", "rest"]
/-- lift: 0 graph 1 row 2 modulus 3 edge 4 amount 5 amounts 6 rest 7 vertex 8 steps 9 other 10 goal 11 sign 12 tail 13 head -/
def b_lift : Ss :=
  (.cons (.ex (.call "check_row" (.cons (.var 0) (.cons (.var 1) .nil))))
  (.cons (.iff (.cmp .lt (.var 2) (.int 2))
   (.cons (.rais "BadModulus" (.cons (.var 2) .nil))
    .nil)
   .nil)
  (.cons (.forr (.tp (.nm 3) (.tp (.nm 4) .tz)) (.enu (.var 1))
   (.cons (.iff (.not (.chn .le .lt (.int 0) (.var 4) (.var 2)))
     (.cons (.rais "BadAmount" (.cons (.var 3) .nil))
      .nil)
     .nil)
    .nil))
  (.cons (.ex (.call "refuse_unbalanced" (.cons (.var 0) (.cons (.var 1) (.cons (.var 2) .nil)))))
  (.cons (.asg (.nm 5) (.bi .list (.cons (.var 1) .nil)))
  (.cons (.asg (.nm 6) (.call "imbalances" (.cons (.var 0) (.cons (.var 5) .nil))))
  (.cons (.forr (.nm 7) (.rng (.cons (.prop (.var 0) "vertices") .nil))
   (.cons (.whl (.cmp .gt (.ix (.var 6) (.var 7)) (.int 0))
     (.cons (.asg (.nm 8) (.call "find_steps" (.cons (.var 0) (.cons (.var 7) (.cons (.lend 6 (.lc (.cmp .lt (.var 9) (.int 0)) (.nm 9) (.ex (.var 6)) .nil [("other", 9)])) (.cons (.call "changes" (.cons (.var 5) .nil)) .nil))))))
      (.cons (.asg (.nm 10) (.var 7))
      (.cons (.forr (.tp (.nm 3) (.tp (.nm 11) .tz)) (.ex (.var 8))
       (.cons (.asg (.tp (.nm 12) (.tp (.nm 13) .tz)) (.meth (.var 0) "ends" (.cons (.var 3) .nil)))
        (.cons (.asg (.nm 10) (.ife (.cmp .eq (.var 11) (.int 1)) (.var 13) (.var 12)))
        (.cons (.augs (.var 5) (.var 3) .add (.bin .mul (.var 11) (.var 2)))
        .nil))))
      (.cons (.augs (.var 6) (.var 7) .sub (.var 2))
      (.cons (.augs (.var 6) (.var 10) .add (.var 2))
      .nil))))))
    .nil))
  (.cons (.ret (.var 5))
  .nil))))))))
def n_lift : List Str := ["graph", "row", "modulus", "edge", "amount", "amounts", "rest", "vertex", "steps", "other", "goal", "sign", "tail", "head"]
/-- changes: 0 amounts 1 amount -/
def b_changes : Ss :=
  (.cons (.ret (.lc (.ife (.cmp .gt (.var 1) (.int 0)) (.tup (.cons (.neg (.int 1)) .nil)) (.ife (.cmp .lt (.var 1) (.int 0)) (.tup (.cons (.int 1) .nil)) (.tup .nil))) (.nm 1) (.ex (.var 0)) .nil [("amount", 1)]))
  .nil)
def n_changes : List Str := ["amounts", "amount"]
/-- _law_residue_row: 0 state 1 many 2 pairs 3 modulus 4 amount -/
def b_law_residue_row : Ss :=
  (.cons (.ret (.lc (.bin .mod (.bi .int (.cons (.var 4) .nil)) (.var 3)) (.nm 4) (.ex (.call "_law_some_flow" (.cons (.var 0) (.cons (.var 1) (.cons (.var 2) (.cons (.var 3) .nil)))))) .nil [("amount", 4)]))
  .nil)
def n_law_residue_row : List Str := ["state", "many", "pairs", "modulus", "amount"]
/-- _law_told: 0 graph 1 row 2 modulus 3 e -/
def b_law_told14 : Ss :=
  (.cons (.tryx (.cons (.ret (.tup (.cons (.str "flow") (.cons (.callk "lift" (.cons (.var 0) (.cons (.var 1) .nil)) ["modulus"] (.cons (.var 2) .nil)) .nil))))
    .nil) 3 "FlowError" (.iff (.is "BadRow") (.tup (.cons (.str "row") (.cons (.att "length") .nil))) (.iff (.is "BadModulus") (.tup (.cons (.str "modulus") (.cons (.att "modulus") .nil))) (.iff (.is "BadAmount") (.tup (.cons (.str "amount") (.cons (.att "edge") .nil))) (.ret (.ife (.is "Unbalanced") (.tup (.cons (.str "unbalanced") (.cons (.att "vertex") .nil))) (.tup (.cons (.str "other") (.cons (.int 0) .nil)))))))))
  .nil)
def n_law_told14 : List Str := ["graph", "row", "modulus", "e"]
/-- _law_asked: 0 graph 1 many 2 pairs 3 row 4 modulus 5 passed 6 told 7 bad 8 edge 9 rests 10 vertex 11 choices 12 rest -/
def b_law_asked14 : Ss :=
  (.cons (.asg (.nm 5) (.bi .list (.cons (.var 3) .nil)))
  (.cons (.asg (.nm 6) (.call "_law_told" (.cons (.var 0) (.cons (.var 5) (.cons (.var 4) .nil)))))
  (.cons (.iff (.cmp .ne (.var 5) (.var 3))
   (.cons (.ret (.bl false))
    .nil)
   .nil)
  (.cons (.iff (.cmp .ne (.bi .len (.cons (.var 3) .nil)) (.bi .len (.cons (.var 2) .nil)))
   (.cons (.ret (.cmp .eq (.bi .repr (.cons (.var 6) .nil)) (.bi .repr (.cons (.tup (.cons (.str "row") (.cons (.bi .len (.cons (.var 3) .nil)) .nil))) .nil))))
    .nil)
   .nil)
  (.cons (.iff (.cmp .lt (.var 4) (.int 2))
   (.cons (.ret (.cmp .eq (.bi .repr (.cons (.var 6) .nil)) (.bi .repr (.cons (.tup (.cons (.str "modulus") (.cons (.var 4) .nil))) .nil))))
    .nil)
   .nil)
  (.cons (.asg (.nm 7) (.lc (.var 8) (.nm 8) (.rng (.cons (.bi .len (.cons (.var 3) .nil)) .nil)) (.cons (.not (.chn .le .lt (.int 0) (.ix (.var 3) (.var 8)) (.var 4))) .nil) [("edge", 8)]))
  (.cons (.iff (.cmp .ne (.var 7) (.lst .nil))
   (.cons (.ret (.cmp .eq (.bi .repr (.cons (.var 6) .nil)) (.bi .repr (.cons (.tup (.cons (.str "amount") (.cons (.ix (.var 7) (.int 0)) .nil))) .nil))))
    .nil)
   .nil)
  (.cons (.asg (.nm 9) (.call "_law_rests" (.cons (.var 1) (.cons (.var 2) (.cons (.var 3) .nil)))))
  (.cons (.asg (.nm 7) (.lc (.var 10) (.nm 10) (.rng (.cons (.var 1) .nil)) (.cons (.cmp .ne (.bin .mod (.bi .int (.cons (.ix (.var 9) (.var 10)) .nil)) (.var 4)) (.int 0)) .nil) [("vertex", 10)]))
  (.cons (.iff (.cmp .ne (.var 7) (.lst .nil))
   (.cons (.ret (.cmp .eq (.bi .repr (.cons (.var 6) .nil)) (.bi .repr (.cons (.tup (.cons (.str "unbalanced") (.cons (.ix (.var 7) (.int 0)) .nil))) .nil))))
    .nil)
   .nil)
  (.cons (.iff (.or (.cons (.cmp .ne (.ix (.var 6) (.int 0)) (.str "flow")) (.cons (.not (.ex (.isb (.ix (.var 6) (.int 1)) "list"))) (.cons (.cmp .ne (.bi .len (.cons (.ix (.var 6) (.int 1)) .nil)) (.bi .len (.cons (.var 3) .nil))) .nil))))
   (.cons (.ret (.bl false))
    .nil)
   .nil)
  (.cons (.forr (.nm 8) (.rng (.cons (.bi .len (.cons (.var 3) .nil)) .nil))
   (.cons (.asg (.nm 11) (.ife (.cmp .gt (.ix (.var 3) (.var 8)) (.int 0)) (.lst (.cons (.ix (.var 3) (.var 8)) (.cons (.bin .sub (.ix (.var 3) (.var 8)) (.var 4)) .nil))) (.lst (.cons (.int 0) .nil))))
    (.cons (.iff (.or (.cons (.cmp .notin (.ix (.ix (.var 6) (.int 1)) (.var 8)) (.var 11)) (.cons (.not (.ex (.isb (.ix (.ix (.var 6) (.int 1)) (.var 8)) "int"))) .nil)))
     (.cons (.ret (.bl false))
      .nil)
     .nil)
    .nil)))
  (.cons (.ret (.cmp .eq (.lc (.var 12) (.nm 12) (.ex (.call "_law_rests" (.cons (.var 1) (.cons (.var 2) (.cons (.ix (.var 6) (.int 1)) .nil))))) (.cons (.cmp .ne (.var 12) (.int 0)) .nil) [("rest", 12)]) (.lst .nil)))
  .nil)))))))))))))
def n_law_asked14 : List Str := ["graph", "many", "pairs", "row", "modulus", "passed", "told", "bad", "edge", "rests", "vertex", "choices", "rest"]
/-- law: 0 script 1 state 2 built 3 many 4 pairs 5 graph 6 turn 7 modulus 8 row 9 pair 10 amount 11 changed 12 choices -/
def b_law14 : Ss :=
  (.cons (.asg (.nm 1) (.call "_law_state" (.cons (.var 0) (.cons (.int 0) (.cons (.int 14) .nil)))))
  (.cons (.asg (.nm 2) (.call "_law_by_ears" (.cons (.var 1) (.cons (.int 6) .nil))))
  (.cons (.asg (.nm 3) (.ix (.var 2) (.int 0)))
  (.cons (.asg (.nm 4) (.ix (.var 2) (.int 1)))
  (.cons (.iff (.cmp .eq (.call "_law_next" (.cons (.var 1) (.cons (.int 3) .nil))) (.int 0))
   (.cons (.asg (.nm 3) (.bin .add (.int 1) (.call "_law_next" (.cons (.var 1) (.cons (.int 8) .nil)))))
    (.cons (.asg (.nm 4) (.call "_law_any_pairs" (.cons (.var 1) (.cons (.var 3) (.cons (.int 14) .nil)))))
    .nil))
   .nil)
  (.cons (.asg (.nm 5) (.make "Graph" (.cons (.var 3) (.cons (.bi .list (.cons (.var 4) .nil)) .nil))))
  (.cons (.forr (.nm 6) (.rng (.cons (.int 3) .nil))
   (.cons (.asg (.nm 7) (.bin .add (.int 2) (.call "_law_next" (.cons (.var 1) (.cons (.int 11) .nil)))))
    (.cons (.iff (.and (.cons (.cmp .eq (.var 6) (.int 2)) (.cons (.cmp .eq (.call "_law_next" (.cons (.var 1) (.cons (.int 2) .nil))) (.int 0)) .nil)))
     (.cons (.asg (.nm 7) (.bi .int (.cons (.bin .add (.bin .add (.bin .mul (.var 7) (.bin .pow (.int 10) (.int 18))) (.bin .mul (.call "_law_next" (.cons (.var 1) (.cons (.int 1000) .nil))) (.bin .pow (.int 10) (.int 9)))) (.call "_law_next" (.cons (.var 1) (.cons (.int 1000) .nil)))) .nil)))
      .nil)
     .nil)
    (.cons (.asg (.nm 8) (.ife (.cmp .lt (.var 6) (.int 2)) (.call "_law_residue_row" (.cons (.var 1) (.cons (.var 3) (.cons (.var 4) (.cons (.var 7) .nil))))) (.lc (.int 0) (.nm 9) (.ex (.var 4)) .nil [("pair", 9)])))
    (.cons (.iff (.cmp .eq (.var 6) (.int 2))
     (.cons (.asg (.nm 8) (.lc (.bin .mod (.bi .int (.cons (.bin .mul (.var 10) (.bin .add (.bin .fdiv (.var 7) (.int 3)) (.int 1))) .nil)) (.var 7)) (.nm 10) (.ex (.call "_law_some_flow" (.cons (.var 1) (.cons (.var 3) (.cons (.var 4) (.cons (.int 9) .nil)))))) .nil [("amount", 10)]))
      .nil)
     .nil)
    (.cons (.iff (.not (.ex (.call "_law_asked" (.cons (.var 5) (.cons (.var 3) (.cons (.var 4) (.cons (.var 8) (.cons (.var 7) .nil))))))))
     (.cons (.ret (.bl false))
      .nil)
     .nil)
    (.cons (.asg (.nm 11) (.bi .list (.cons (.var 8) .nil)))
    (.cons (.iff (.cmp .gt (.bi .len (.cons (.var 8) .nil)) (.int 0))
     (.cons (.asg (.nm 12) (.lst (.cons (.bin .sub (.call "_law_next" (.cons (.var 1) (.cons (.int 15) .nil))) (.int 2)) (.cons (.var 7) (.cons (.neg (.int 1)) (.cons (.bin .sub (.var 7) (.int 1)) .nil))))))
      (.cons (.set (.var 11) (.call "_law_next" (.cons (.var 1) (.cons (.bi .len (.cons (.var 8) .nil)) .nil))) (.ix (.var 12) (.call "_law_next" (.cons (.var 1) (.cons (.int 4) .nil)))))
      .nil))
     .nil)
    (.cons (.iff (.not (.ex (.call "_law_asked" (.cons (.var 5) (.cons (.var 3) (.cons (.var 4) (.cons (.var 11) (.cons (.var 7) .nil))))))))
     (.cons (.ret (.bl false))
      .nil)
     .nil)
    (.cons (.iff (.or (.cons (.not (.ex (.call "_law_asked" (.cons (.var 5) (.cons (.var 3) (.cons (.var 4) (.cons (.var 11) (.cons (.bin .sub (.int 1) (.var 6)) .nil)))))))) (.cons (.not (.ex (.call "_law_asked" (.cons (.var 5) (.cons (.var 3) (.cons (.var 4) (.cons (.bin .add (.var 8) (.lst (.cons (.int 0) .nil))) (.cons (.int 1) .nil)))))))) .nil)))
     (.cons (.ret (.bl false))
      .nil)
     .nil)
    .nil))))))))))
  (.cons (.ret (.call "_law_asked" (.cons (.var 5) (.cons (.var 3) (.cons (.var 4) (.cons (.lc (.int 2) (.nm 9) (.ex (.var 4)) .nil [("pair", 9)]) (.cons (.int 5) .nil)))))))
  .nil))))))))
def n_law14 : List Str := ["script", "state", "built", "many", "pairs", "graph", "turn", "modulus", "row", "pair", "amount", "changed", "choices"]
end M
set_option linter.all false
set_option Elab.async false
set_option maxRecDepth 10000
set_option maxHeartbeats 4000000
/-! K14P: changes, refuse_unbalanced. -/
namespace M
open PySem PySem.Spec PyProof.Rows L2 C8
def chgG (a : Int) : List Int := if 0 < a then [-1] else if a < 0 then [1] else []
theorem chg_len (a : Int) : (chgG a).length ≤ 2 := by
  unfold chgG
  split
  · simp
  · split <;> simp
section
variable {Γ : Tb}
def changesF : Fn := ⟨[.bo], fun ds Q _ => ∃ am : List Int, ds = [.lst (am.map D.int)] ∧ am.length < line ∧ Q (.fr ((am.map chgG).map signD)) []⟩
theorem p_changes : ∀ ds Q X, changesF.sp ds Q X → dDef Γ [.bo] 1 b_changes ds Q X := by
  rintro ds Q X ⟨bs, rfl, hl, q⟩
  refine ⟨rfl, fun k acc ρ => ρ = [.bo (bs.map D.int), .top] ∧ acc = ((bs.take k).map chgG).map signD, ⟨rfl, rfl⟩, ?_, ?_⟩
  · rintro k acc ρ d hd ⟨rfl, rfl⟩
    rw [List.getElem?_map] at hd
    obtain ⟨b, hb, rfl⟩ := Option.map_eq_some_iff.mp hd
    have hk := (List.getElem?_eq_some_iff.mp hb).1
    have hs : bs.take (k + 1) = bs.take k ++ [b] := by
      rw [List.take_succ_eq_append_getElem hk, (List.getElem?_eq_some_iff.mp hb).2]
    have hacc : (((bs.take k).map chgG).map signD).length < line := by
      rw [List.length_map, List.length_map, List.length_take]
      omega
    refine ⟨rfl, ?_⟩
    by_cases h1 : 0 < b
    · refine ite_t (decide_eq_true h1) ?_
      refine ⟨(show 1 ≤ line by decide), hacc, rfl, ?_⟩
      have e : chgG b = [-1] := if_pos h1
      rw [hs, List.map_append, List.map_append, List.map_singleton, e] <;> rfl
    · refine ite_f (c := decide (b > 0) = true) (by simp; omega) ?_
      by_cases h2 : b < 0
      · refine ite_t (decide_eq_true h2) ?_
        refine ⟨(show 1 ≤ line by decide), hacc, rfl, ?_⟩
        have e : chgG b = [1] := by
          unfold chgG
          rw [if_neg h1, if_pos h2]
        rw [hs, List.map_append, List.map_append, List.map_singleton, e] <;> rfl
      · refine ite_f (c := decide (b < 0) = true) (by simp; omega) ?_
        refine ⟨(show 0 ≤ line by decide), hacc, rfl, ?_⟩
        have e : chgG b = [] := by
          unfold chgG
          rw [if_neg h1, if_neg h2]
        rw [hs, List.map_append, List.map_append, List.map_singleton, e] <;> rfl
  · rintro acc ρ ⟨rfl, rfl⟩
    rw [List.length_map, List.take_length]
    exact ⟨_, _, rfl, rfl, q⟩
def goodR (r k : Int) : Prop := r = 0 ∨ (k ≠ 0 ∧ r % k = 0)
def refuseX : Fn := ⟨[.sh, .bo, .sh], fun ds Q X => ∃ (n : Nat) (ps : List (Int × Int)) (row : List Int) (k : Int), ds = [graphD n ps, .lst (row.map D.int), .int k] ∧ okG n ps ∧ row.length = ps.length ∧ n < line ∧ ps.length < line ∧ 0 ≤ k ∧
  ((∀ v, v < n → goodR (nk ps row ps.length v) k) → Q (.sh .non) []) ∧ ∀ v, v < n → ¬ goodR (nk ps row ps.length v) k → (∀ u, u < v → goodR (nk ps row ps.length u) k) → X ⟨"Unbalanced", [("vertex", .int v)]⟩⟩
theorem p_refuse (hi : Γ.f "imbalances" = some imbsF) (hx : exOne "Unbalanced" "vertex" Γ) : ∀ ds Q X, refuseX.sp ds Q X → dDef Γ [.sh, .bo, .sh] 2 b_refuse_unbalanced ds Q X := by
  rintro ds Q X ⟨n, ps, row, m, rfl, ok, hl, hn, hp, hm, q1, q2⟩
  obtain ⟨fx, e1, e2⟩ := hx
  conv => whnf
  rw [hi]
  refine ⟨List.nodup_nil, fun _ h => (by cases h), n, ps, row, rfl, ok, hl, hn, hp, ?_⟩
  refine ⟨rfl, fun k ρ => ∃ s3 s4, ρ = [.sh (graphD n ps), .bo (row.map D.int), .sh (.int m), s3, s4] ∧ isIo (some s3) = false ∧ isIo (some s4) = false ∧ ∀ u, u < k → goodR (nk ps row ps.length u) m, ⟨_, _, rfl, rfl, rfl, fun u h => (by omega)⟩, ?_, ?_⟩
  · rintro k ρ d hd ⟨s3, s4, rfl, i3, i4, dn⟩
    obtain ⟨x, hx, rfl⟩ := getE hd
    have hk : k < n := by
      have := (List.getElem?_eq_some_iff.mp hx).1
      rw [netL_len] at this
      exact this
    rw [netL_get hk] at hx
    cases hx
    refine ⟨i3, i4, rfl, ?_⟩
    generalize hr : nk ps row ps.length k = r
    have nx : goodR r m → ∃ s3 s4, [.sh (graphD n ps), .bo (row.map D.int), .sh (.int m), .sh (.int (k : Int)), .sh (.int r)] = ([.sh (graphD n ps), .bo (row.map D.int), .sh (.int m), s3, s4] : En) ∧ isIo (some s3) = false ∧ isIo (some s4) = false ∧ ∀ u, u < k + 1 → goodR (nk ps row ps.length u) m := fun g => by
      refine ⟨_, _, rfl, rfl, rfl, fun u hu => ?_⟩
      by_cases e : u = k
      · subst e
        rw [hr]
        exact g
      · exact dn u (by omega)
    have bad : ¬ goodR r m → dSs Γ (.cons (.rais "Unbalanced" (.cons (.var 3) .nil)) .nil) [.sh (graphD n ps), .bo (row.map D.int), .sh (.int m), .sh (.int (k : Int)), .sh (.int r)] ⟨fun _ => False, fun _ _ => False, fun _ => False, fun _ => False, fun x _ => X x⟩ := fun h => by
      refine ⟨by show 1 ≤ 1000; decide, ?_⟩
      refine w1_at e1 ?_
      exact w1_at (e2 _ (log_nat (by omega))) (q2 k hk (by rw [hr]; exact h) dn)
    by_cases h0 : r = 0
    · refine ite_f (c := (!decide (r = 0)) = true) (by simp [h0]) ?_
      exact nx (.inl h0)
    · refine ite_t (c := (!decide (r = 0)) = true) (by simp [h0]) ?_
      by_cases h1 : m = 0
      · refine ite_t (c := decide (m = 0) = true) (by simp [h1]) ?_
        exact bad fun g => g.elim h0 fun g => g.1 h1
      · refine ite_f (c := decide (m = 0) = true) (by simp [h1]) ?_
        refine ⟨(show 0 < m by omega), ?_⟩
        by_cases h2 : r % m = 0
        · refine ite_f (c := (!decide (r % m = 0)) = true) (by simp [h2]) ?_
          exact nx (.inr ⟨h1, h2⟩)
        · refine ite_t (c := (!decide (r % m = 0)) = true) (by simp [h2]) ?_
          exact bad fun g => g.elim h0 fun g => h2 g.2
  · rintro ρ ⟨s3, s4, rfl, _, _, dn⟩
    rw [enumD_len, netL_len] at dn
    exact ⟨_, rfl, q1 dn⟩
end
end M
set_option linter.all false
set_option Elab.async false
set_option maxRecDepth 10000
set_option maxHeartbeats 4000000
/-! K14Q: steps in detail; sums over sets of vertices; amounts along a way. Plain Lean. -/
namespace M
open PySem
theorem steps_mem {ps : List (Int × Int)} {ss : List (List Int)} {u : Int} {y : Int × Int} {z : Int} : (y, z) ∈ stepsG ps ss u ↔ ∃ (j : Nat) (p : Int × Int), ps[j]? = some p ∧ y.1 = j ∧ y.2 ∈ ss.getD j [] ∧ stepP y.2 p = (u, z) := by
  unfold stepsG
  rw [List.mem_flatMap]
  constructor
  · rintro ⟨e, he, hx⟩
    obtain ⟨j, hj, rfl⟩ := atG_get (ps := ps) he
    unfold stepsAt at hx
    obtain ⟨s, hs0, hs⟩ := List.mem_filterMap.mp hx
    rw [Nat.zero_add, Int.toNat_natCast] at hs0
    rw [Nat.zero_add, Int.toNat_natCast, List.getD_eq_getElem?_getD, List.getElem?_eq_getElem hj] at hs
    unfold stepOf at hs
    split at hs
    · rename_i hb
      cases hs
      exact ⟨j, ps[j], List.getElem?_eq_getElem hj, rfl, hs0, by
        have : (stepP s ps[j]).1 = u := hb
        rw [← this]
        rfl⟩
    · cases hs
  · rintro ⟨j, p, hp, h1, h2, h3⟩
    refine ⟨(j : Int), ?_, ?_⟩
    · have := atG_mem (k := 0) (v := u) hp (by
        unfold stepP at h3
        split at h3
        · exact .inl (congrArg Prod.fst h3)
        · exact .inr (congrArg Prod.fst h3))
      rw [Nat.zero_add] at this
      exact this
    · unfold stepsAt
      rw [List.mem_filterMap]
      refine ⟨y.2, by rw [Int.toNat_natCast]; exact h2, ?_⟩
      rw [Int.toNat_natCast, List.getD_eq_getElem?_getD, hp]
      unfold stepOf
      rw [if_pos (by rw [Option.getD_some, h3]), Option.getD_some, h3, ← h1]
/-! ### sums -/
def sumP (U : Nat → Bool) (f : Nat → Int) : Nat → Int
  | 0 => 0
  | n + 1 => sumP U f n + if U n = true then f n else 0
theorem sumP_add {U : Nat → Bool} {f g : Nat → Int} : ∀ {n : Nat}, sumP U (fun v => f v + g v) n = sumP U f n + sumP U g n
  | 0 => rfl
  | n + 1 => by
    show sumP U (fun v => f v + g v) n + (if U n = true then f n + g n else 0) = sumP U f n + (if U n = true then f n else 0) + (sumP U g n + (if U n = true then g n else 0))
    rw [sumP_add]
    split <;> omega
theorem sumP_congr {U : Nat → Bool} {f g : Nat → Int} : ∀ {n : Nat}, (∀ v, v < n → f v = g v) → sumP U f n = sumP U g n
  | 0, _ => rfl
  | n + 1, h => by
    show sumP U f n + (if U n = true then f n else 0) = sumP U g n + (if U n = true then g n else 0)
    rw [sumP_congr fun v hv => h v (by omega), h n (by omega)]
theorem sumP_pt {U : Nat → Bool} {x : Int} {a : Int} : ∀ {n : Nat}, sumP U (fun v => if x = (v : Int) then a else 0) n = if 0 ≤ x ∧ x < n ∧ U x.toNat = true then a else 0
  | 0 => by
    rw [if_neg (by omega)]
    rfl
  | n + 1 => by
    show sumP U (fun v => if x = (v : Int) then a else 0) n + (if U n = true then (if x = (n : Int) then a else 0) else 0) = _
    rw [sumP_pt]
    by_cases e : x = (n : Int)
    · subst e
      rw [if_neg (by omega), if_pos rfl, Int.toNat_natCast]
      by_cases hU : U n = true
      · rw [if_pos hU, if_pos ⟨by omega, by omega, hU⟩, Int.zero_add]
      · rw [if_neg hU, if_neg (fun z => hU z.2.2), Int.zero_add]
    · have z0 : (if U n = true then (0 : Int) else 0) = 0 := by split <;> rfl
      rw [if_neg e, z0, Int.add_zero]
      by_cases h : 0 ≤ x ∧ x < n ∧ U x.toNat = true
      · rw [if_pos h, if_pos ⟨h.1, by omega, h.2.2⟩]
      · rw [if_neg h, if_neg (fun z => h ⟨z.1, by omega, z.2.2⟩)]
def inU (U : Nat → Bool) (x : Int) (a : Int) : Int := if U x.toNat = true then a else 0
theorem sumP_dl {U : Nat → Bool} {n : Nat} {p : Int × Int} {a : Int} (h : 0 ≤ p.1 ∧ p.1 < n ∧ 0 ≤ p.2 ∧ p.2 < n) : sumP U (dl p a) n = inU U p.2 a - inU U p.1 a := by
  have e : sumP U (dl p a) n = sumP U (fun v => (if p.2 = (v : Int) then a else 0) + (if p.1 = (v : Int) then -a else 0)) n := sumP_congr fun v _ => by
    unfold dl
    split <;> split <;> omega
  rw [e, sumP_add, sumP_pt, sumP_pt]
  unfold inU
  simp only [h.1, h.2.1, h.2.2.1, h.2.2.2, true_and]
  split <;> split <;> omega
theorem nk_zero {ps : List (Int × Int)} {am : List Int} {v : Nat} : nk ps am 0 v = 0 := rfl
theorem sumP_zero {U : Nat → Bool} : ∀ {n : Nat}, sumP U (fun _ => 0) n = 0
  | 0 => rfl
  | n + 1 => by
    show sumP U (fun _ => 0) n + (if U n = true then (0 : Int) else 0) = 0
    rw [sumP_zero]
    split <;> rfl
theorem nk_le {U : Nat → Bool} {n : Nat} {ps : List (Int × Int)} {am : List Int} (ok : okG n ps) (hl : am.length = ps.length) (h : ∀ (j : Nat) p a, ps[j]? = some p → am[j]? = some a → inU U p.2 a - inU U p.1 a ≤ 0) : ∀ k : Nat, k ≤ ps.length → sumP U (nk ps am k) n ≤ 0
  | 0, _ => by
    rw [sumP_congr (g := fun _ => 0) fun v _ => nk_zero, sumP_zero]
    exact Int.le_refl 0
  | k + 1, hk => by
    have hp : ps[k]? = some ps[k] := List.getElem?_eq_getElem (by omega)
    have ha : am[k]? = some am[k] := List.getElem?_eq_getElem (by omega)
    rw [sumP_congr fun v _ => nk_step hp ha v, sumP_add, sumP_dl (ok _ (List.getElem_mem (by omega)))]
    have := nk_le ok hl h k (by omega)
    have := h k _ _ hp ha
    omega
theorem nk_all {n : Nat} {ps : List (Int × Int)} {am : List Int} (ok : okG n ps) (hl : am.length = ps.length) : ∀ k : Nat, k ≤ ps.length → sumP (fun _ => true) (nk ps am k) n = 0
  | 0, _ => by
    rw [sumP_congr (g := fun _ => 0) fun v _ => nk_zero, sumP_zero]
  | k + 1, hk => by
    have hp : ps[k]? = some ps[k] := List.getElem?_eq_getElem (by omega)
    have ha : am[k]? = some am[k] := List.getElem?_eq_getElem (by omega)
    rw [sumP_congr fun v _ => nk_step hp ha v, sumP_add, sumP_dl (ok _ (List.getElem_mem (by omega))), nk_all ok hl k (by omega)]
    unfold inU
    simp
theorem sumP_nn {U : Nat → Bool} {f : Nat → Int} : ∀ {n : Nat}, (∀ v, v < n → U v = true → 0 ≤ f v) → 0 ≤ sumP U f n ∧ ∀ v, v < n → U v = true → f v ≤ sumP U f n
  | 0, _ => ⟨Int.le_refl 0, fun v h => (by omega)⟩
  | n + 1, h => by
    have ih := sumP_nn (n := n) fun v hv => h v (by omega)
    have hn := h n (by omega)
    have e : sumP U f (n + 1) = sumP U f n + if U n = true then f n else 0 := rfl
    by_cases hU : U n = true
    · rw [if_pos hU] at e
      have := hn hU
      refine ⟨by omega, fun v hv hU' => ?_⟩
      by_cases e2 : v = n
      · subst e2
        omega
      · have := ih.2 v (by omega) hU'
        omega
    · rw [if_neg hU] at e
      refine ⟨by omega, fun v hv hU' => ?_⟩
      by_cases e2 : v = n
      · subst e2
        exact absurd hU' hU
      · have := ih.2 v (by omega) hU'
        omega
theorem sumP_neg {U : Nat → Bool} {f : Nat → Int} : ∀ {n : Nat}, sumP U (fun v => - f v) n = - sumP U f n
  | 0 => rfl
  | n + 1 => by
    show sumP U (fun v => - f v) n + (if U n = true then - f n else 0) = - (sumP U f n + if U n = true then f n else 0)
    rw [sumP_neg]
    split <;> omega
/-- all at most 0: all 0 -/
theorem nk_done {n : Nat} {ps : List (Int × Int)} {am : List Int} (ok : okG n ps) (hl : am.length = ps.length) (h : ∀ v, v < n → nk ps am ps.length v ≤ 0) : ∀ v, v < n → nk ps am ps.length v = 0 := fun v hv => by
  have h1 := (sumP_nn (U := fun _ => true) (f := fun v => - nk ps am ps.length v) (n := n) fun v hv _ => by have := h v hv; omega).2 v hv rfl
  rw [sumP_neg, nk_all ok hl ps.length (Nat.le_refl _)] at h1
  have := h v hv
  omega
open Classical in
/-- from a vertex where too much comes in, a vertex can be reached where too little does -/
theorem goal_ex {n : Nat} {ps : List (Int × Int)} {am : List Int} {a : Nat} (ok : okG n ps) (hl : am.length = ps.length) (ha : a < n) (h : 0 < nk ps am ps.length a) : ∃ v, v < n ∧ Reach ps (am.map chgG) a v ∧ nk ps am ps.length v < 0 := by
  by_cases hc : ∃ v, v < n ∧ Reach ps (am.map chgG) a v ∧ nk ps am ps.length v < 0
  · exact hc
  · exfalso
    have hn : ∀ v, v < n → Reach ps (am.map chgG) a v → 0 ≤ nk ps am ps.length v := fun v h1 h2 => by
      by_cases h3 : nk ps am ps.length v < 0
      · exact absurd ⟨v, h1, h2, h3⟩ hc
      · omega
    have hle := nk_le (U := fun v => decide (Reach ps (am.map chgG) a v)) ok hl (fun j p z hp hz => by
      have o := ok p (List.mem_of_getElem? hp)
      have gd : (am.map chgG).getD j [] = chgG z := by
        rw [List.getD_eq_getElem?_getD, List.getElem?_map, hz] <;> rfl
      unfold inU
      simp only [decide_eq_true_eq]
      by_cases h2 : Reach ps (am.map chgG) a p.2.toNat
      · by_cases h1 : Reach ps (am.map chgG) a p.1.toNat
        · rw [if_pos h1, if_pos h2]
          omega
        · rw [if_neg h1, if_pos h2]
          by_cases hz0 : 0 < z
          · refine absurd (.step h2 (x := (((j : Nat), -1), p.1)) (steps_mem.mpr ⟨j, p, hp, rfl, ?_, ?_⟩) (by show p.1 = ((p.1.toNat : Nat) : Int); omega)) h1
            · rw [gd]
              show -1 ∈ chgG z
              unfold chgG
              rw [if_pos hz0]
              exact List.mem_singleton.mpr rfl
            · show stepP (-1) p = _
              unfold stepP
              rw [if_neg (by decide)]
              refine Prod.ext ?_ rfl
              show p.2 = ((p.2.toNat : Nat) : Int)
              omega
          · omega
      · rw [if_neg h2]
        by_cases h1 : Reach ps (am.map chgG) a p.1.toNat
        · rw [if_pos h1]
          by_cases hz0 : z < 0
          · refine absurd (.step h1 (x := (((j : Nat), 1), p.2)) (steps_mem.mpr ⟨j, p, hp, rfl, ?_, ?_⟩) (by show p.2 = ((p.2.toNat : Nat) : Int); omega)) h2
            · rw [gd]
              show 1 ∈ chgG z
              unfold chgG
              rw [if_neg (by omega), if_pos hz0]
              exact List.mem_singleton.mpr rfl
            · show stepP 1 p = _
              unfold stepP
              rw [if_pos rfl]
              refine Prod.ext ?_ rfl
              show p.1 = ((p.1.toNat : Nat) : Int)
              omega
          · omega
        · rw [if_neg h1]
          omega) ps.length (Nat.le_refl _)
    have h1 := (sumP_nn (U := fun v => decide (Reach ps (am.map chgG) a v)) (f := nk ps am ps.length) (n := n) fun v hv hU => hn v hv (of_decide_eq_true hU)).2 a ha (decide_eq_true .refl)
    omega
end M
set_option linter.all false
set_option Elab.async false
set_option maxRecDepth 10000
set_option maxHeartbeats 4000000
/-! K14R: amounts along a way. Plain Lean. -/
namespace M
open PySem
def putS (k : Int) (am : List Int) (y : Int × Int) : List Int := am.set y.1.toNat (am.getD y.1.toNat 0 + y.2 * k)
theorem putS_len {k : Int} {am : List Int} {y : Int × Int} : (putS k am y).length = am.length := by
  unfold putS
  rw [List.length_set]
theorem puts_len {k : Int} : ∀ {xs : List (Int × Int)} {am : List Int}, (xs.foldl (putS k) am).length = am.length
  | [], _ => rfl
  | x :: xs, am => by rw [List.foldl_cons, puts_len, putS_len]
theorem dl_add {p : Int × Int} {a c : Int} {v : Nat} : dl p (a + c) v = dl p a v + dl p c v := by
  unfold dl
  split <;> split <;> omega
theorem nk_set {ps : List (Int × Int)} {am : List Int} {j : Nat} {p : Int × Int} {a c : Int} (hp : ps[j]? = some p) (ha : am[j]? = some a) (v : Nat) : ∀ k : Nat, nk ps (am.set j (a + c)) k v = nk ps am k v + if j < k then dl p c v else 0
  | 0 => by simp [nk]
  | k + 1 => by
    show nk ps (am.set j (a + c)) k v + (match ps[k]?, (am.set j (a + c))[k]? with
      | some p, some a => dl p a v
      | _, _ => 0) = (nk ps am k v + match ps[k]?, am[k]? with
      | some p, some a => dl p a v
      | _, _ => 0) + _
    rw [nk_set hp ha v k]
    have hj : j < am.length := (List.getElem?_eq_some_iff.mp ha).1
    by_cases e : k = j
    · subst e
      rw [if_neg (by omega), if_pos (by omega), List.getElem?_set_self hj, hp, ha]
      simp only [dl_add]
      omega
    · rw [List.getElem?_set_ne (Ne.symm e)]
      by_cases h : j < k
      · rw [if_pos h, if_pos (by omega)]
        omega
      · rw [if_neg h, if_neg (by omega)]
        omega
theorem dl_step {k s : Int} {p : Int × Int} {u z : Nat} (hs : s = 1 ∨ s = -1) (h : stepP s p = ((u : Int), (z : Int))) (v : Nat) : dl p (s * k) v = (if v = z then k else 0) - if v = u then k else 0 := by
  unfold dl
  rcases hs with rfl | rfl
  · have h' : p = ((u : Int), (z : Int)) := h
    subst h'
    simp only [Int.ofNat_inj, Int.one_mul]
    have e1 : (z = v) ↔ (v = z) := eq_comm
    have e2 : (u = v) ↔ (v = u) := eq_comm
    simp only [e1, e2]
  · have h1 : p.2 = (u : Int) := congrArg Prod.fst h
    have h2 : p.1 = (z : Int) := congrArg Prod.snd h
    rw [h1, h2]
    have e1 : ((z : Int) = (v : Int)) ↔ (v = z) := by omega
    have e2 : ((u : Int) = (v : Int)) ↔ (v = u) := by omega
    simp only [e1, e2]
    split <;> split <;> omega
theorem chg_mem {a s : Int} (h : s ∈ chgG a) : (0 < a ∧ s = -1) ∨ (a < 0 ∧ s = 1) := by
  unfold chgG at h
  split at h
  · exact .inl ⟨by assumption, List.mem_singleton.mp h⟩
  · split at h
    · exact .inr ⟨by assumption, List.mem_singleton.mp h⟩
    · cases h
/-- what a way with these steps does to the amounts -/
structure Along (ps : List (Int × Int)) (am : List Int) (k : Int) (a : Nat) (xs : List (Int × Int)) (u : Nat) : Prop where
  net : ∀ v : Nat, nk ps (xs.foldl (putS k) am) ps.length v = nk ps am ps.length v - (if v = a then k else 0) + if v = u then k else 0
  old : ∀ e : Nat, (∀ s, ((e : Int), s) ∉ xs) → (xs.foldl (putS k) am)[e]? = am[e]?
  new : ∀ (e : Nat) s x, ((e : Int), s) ∈ xs → am[e]? = some x → s ∈ chgG x ∧ (xs.foldl (putS k) am)[e]? = some (x + s * k)
theorem along {ps : List (Int × Int)} {am : List Int} {k : Int} {a : Nat} (hl : am.length = ps.length) {xs : List (Int × Int)} {vs : List Nat} {u : Nat} (h : Way ps (am.map chgG) a xs vs u) :
    (∀ (e : Nat) s, ((e : Int), s) ∈ xs → s ∈ (am.map chgG).getD e [] ∧ ∃ p w, ps[e]? = some p ∧ (stepP s p).1 = ((w : Nat) : Int) ∧ w ∈ vs.dropLast) ∧ (vs.Nodup → Along ps am k a xs u) := by
  induction h with
  | nil =>
    refine ⟨fun e s h => (by cases h), fun _ => ⟨fun v => ?_, fun e _ => rfl, fun e s x h => (by cases h)⟩⟩
    show nk ps am ps.length v = _
    omega
  | @snoc u z xs vs y h1 h2 ih =>
    obtain ⟨j, p, hp, e1, e2, e3⟩ := steps_mem.mp h2
    obtain ⟨y1, y2⟩ := y
    have e1 : y1 = (j : Int) := e1
    subst e1
    refine ⟨fun e s hm => ?_, fun nd => ?_⟩
    · rw [List.dropLast_concat]
      rcases List.mem_append.mp hm with hm | hm
      · obtain ⟨g1, p', w, g2, g3, g4⟩ := ih.1 e s hm
        exact ⟨g1, p', w, g2, g3, List.dropLast_subset _ g4⟩
      · have hm := List.mem_singleton.mp hm
        have q1 : e = j := Int.ofNat_inj.mp (congrArg Prod.fst hm)
        have q2 : s = y2 := congrArg Prod.snd hm
        subst q1
        subst q2
        refine ⟨e2, p, u, hp, congrArg Prod.fst e3, ?_⟩
        rw [h1.last]
        exact List.mem_append_right _ (List.mem_singleton.mpr rfl)
    · have nd' : vs.Nodup := (List.nodup_append.mp nd).1
      have A := ih.2 nd'
      have hj : j < ps.length := (List.getElem?_eq_some_iff.mp hp).1
      have hx : am[j]? = some am[j] := List.getElem?_eq_getElem (by omega)
      generalize am[j] = x at hx
      have gd : (am.map chgG).getD j [] = chgG x := by
        rw [List.getD_eq_getElem?_getD, List.getElem?_map, hx] <;> rfl
      rw [gd] at e2
      have hs : y2 = 1 ∨ y2 = -1 := by
        rcases chg_mem e2 with h | h
        · exact .inr h.2
        · exact .inl h.2
      have fresh : ∀ s, ((j : Int), s) ∉ xs := fun s hm => by
        obtain ⟨g1, p', w, g2, g3, g4⟩ := ih.1 j s hm
        rw [hp] at g2
        cases g2
        rw [gd] at g1
        have : s = y2 := by
          rcases chg_mem e2 with h | h <;> rcases chg_mem g1 with h' | h' <;> omega
        subst this
        rw [e3] at g3
        have : u = w := Int.ofNat_inj.mp g3
        subst this
        rw [h1.last] at nd'
        exact (List.nodup_append.mp nd').2.2 u g4 u (List.mem_singleton.mpr rfl) rfl
      have hf := A.old j fresh
      rw [hx] at hf
      have hput : (xs ++ [((j : Int), y2)]).foldl (putS k) am = (xs.foldl (putS k) am).set j (x + y2 * k) := by
        rw [List.foldl_append, List.foldl_cons, List.foldl_nil]
        unfold putS
        rw [Int.toNat_natCast, List.getD_eq_getElem?_getD]
        have := hf
        unfold putS at this
        rw [this] <;> rfl
      have hjl : j < (xs.foldl (putS k) am).length := by
        rw [puts_len]
        omega
      refine ⟨fun v => ?_, fun e he => ?_, fun e s x' hm hx' => ?_⟩
      · rw [hput, nk_set hp hf v ps.length, if_pos hj, A.net v, dl_step hs e3 v]
        omega
      · rw [hput]
        have ne : j ≠ e := fun q => he y2 (by rw [← q]; exact List.mem_append_right _ (List.mem_singleton.mpr rfl))
        rw [List.getElem?_set_ne ne]
        exact A.old e fun s hm => he s (List.mem_append_left _ hm)
      · rw [hput]
        rcases List.mem_append.mp hm with hm | hm
        · have ne : j ≠ e := fun q => fresh s (by rw [q]; exact hm)
          rw [List.getElem?_set_ne ne]
          exact A.new e s x' hm hx'
        · have hm := List.mem_singleton.mp hm
          have q1 : e = j := Int.ofNat_inj.mp (congrArg Prod.fst hm)
          have q2 : s = y2 := congrArg Prod.snd hm
          subst q1
          subst q2
          rw [hx] at hx'
          cases hx'
          exact ⟨e2, by rw [List.getElem?_set_self hjl]⟩
/-- the amounts of a lifted row -/
def LiftA (k : Int) (row am : List Int) : Prop := am.length = row.length ∧ ∀ (e : Nat) x y, row[e]? = some x → am[e]? = some y → y = x ∨ (0 < x ∧ y = x - k)
theorem lift_along {ps : List (Int × Int)} {row am : List Int} {k : Int} {a u : Nat} {xs : List (Int × Int)} (hr : ∀ x ∈ row, 0 ≤ x ∧ x < k) (L : LiftA k row am) (A : Along ps am k a xs u) : LiftA k row (xs.foldl (putS k) am) := by
  refine ⟨by rw [puts_len]; exact L.1, fun e x y hx hy => ?_⟩
  have he : e < am.length := by
    rw [L.1]
    exact (List.getElem?_eq_some_iff.mp hx).1
  have ha : am[e]? = some am[e] := List.getElem?_eq_getElem he
  generalize am[e] = z at ha
  have r := hr x (List.mem_of_getElem? hx)
  by_cases h : ∃ s, ((e : Int), s) ∈ xs
  · obtain ⟨s, hs⟩ := h
    obtain ⟨n1, n2⟩ := A.new e s z hs ha
    rw [n2] at hy
    cases hy
    rcases chg_mem n1 with ⟨c1, rfl⟩ | ⟨c1, rfl⟩
    · rcases L.2 e x z hx ha with rfl | ⟨_, rfl⟩
      · exact .inr ⟨c1, by omega⟩
      · omega
    · rcases L.2 e x z hx ha with rfl | ⟨_, rfl⟩
      · omega
      · exact .inl (by omega)
  · have o := A.old e fun s hs => h ⟨s, hs⟩
    rw [o, ha] at hy
    cases hy
    exact L.2 e x _ hx ha
/-- the way, some steps along -/
theorem Way.take {ps : List (Int × Int)} {ss : List (List Int)} {a : Nat} {xs : List (Int × Int)} {vs : List Nat} {g : Nat} (h : Way ps ss a xs vs g) : ∀ j, j ≤ xs.length → ∃ u, vs[j]? = some u ∧ Way ps ss a (xs.take j) (vs.take (j + 1)) u ∧ ∀ y, xs[j]? = some y → ∃ z : Nat, (y, (z : Int)) ∈ stepsG ps ss u ∧ vs[j + 1]? = some z := by
  induction h with
  | nil =>
    intro j hj
    have : j = 0 := by simpa using hj
    subst this
    exact ⟨_, rfl, .nil, fun y h => by cases h⟩
  | @snoc u z xs vs y h1 h2 ih =>
    intro j hj
    rw [List.length_append, List.length_singleton] at hj
    have hv := h1.len
    by_cases e : j = xs.length + 1
    · subst e
      refine ⟨z, ?_, ?_, fun y' hy => ?_⟩
      · rw [List.getElem?_append_right (by omega), hv, Nat.sub_self] <;> rfl
      · rw [List.take_of_length_le (by rw [List.length_append] <;> simp), List.take_of_length_le (by rw [List.length_append, hv] <;> simp)]
        exact .snoc h1 h2
      · rw [List.getElem?_eq_none (by rw [List.length_append] <;> simp)] at hy
        cases hy
    · obtain ⟨w, w1, w2, w3⟩ := ih j (by omega)
      refine ⟨w, ?_, ?_, fun y' hy => ?_⟩
      · rw [List.getElem?_append_left (by omega)]
        exact w1
      · rw [List.take_append_of_le_length (by omega), List.take_append_of_le_length (by omega)]
        exact w2
      · by_cases e2 : j = xs.length
        · subst e2
          rw [List.getElem?_append_right (Nat.le_refl _), Nat.sub_self] at hy
          cases hy
          refine ⟨z, ?_, ?_⟩
          · have : w = u := by
              have l := h1.last
              have hd : vs.dropLast.length = xs.length := by rw [List.length_dropLast, hv] <;> rfl
              rw [l, List.getElem?_append_right (by omega), hd, Nat.sub_self] at w1
              cases w1
              rfl
            rw [this]
            exact h2
          · rw [List.getElem?_append_right (by omega), hv, Nat.sub_self] <;> rfl
        · rw [List.getElem?_append_left (by omega)] at hy
          obtain ⟨z', g1, g2⟩ := w3 y' hy
          exact ⟨z', g1, by rw [List.getElem?_append_left (by omega)]; exact g2⟩
end M
set_option linter.all false
set_option Elab.async false
set_option maxRecDepth 10000
set_option maxHeartbeats 4000000
set_option pp.maxSteps 400
/-! K14S: lift. -/
namespace M
open PySem PySem.Spec PyProof.Rows L2 C8
section
variable {Γ : Tb}
theorem Way.zero {ps : List (Int × Int)} {ss : List (List Int)} {a : Nat} {xs : List (Int × Int)} {vs : List Nat} {g : Nat} (h : Way ps ss a xs vs g) (e : xs = []) : g = a := by
  cases h with
  | nil => rfl
  | snoc h1 h2 => simp at e
structure LiftG (Γ : Tb) : Prop where
  v : Γ.p "Graph" "vertices" = some verticesF
  e : Γ.m "Graph" "ends" = some endsF
  r : Γ.f "check_row" = some checkRX
  u : Γ.f "refuse_unbalanced" = some refuseX
  i : Γ.f "imbalances" = some imbsF
  s : Γ.f "find_steps" = some findF
  c : Γ.f "changes" = some changesF
  xm : exOne "BadModulus" "modulus" Γ
  xa : exOne "BadAmount" "edge" Γ
def inM (k x : Int) : Prop := 0 ≤ x ∧ x < k
def liftX : Fn := ⟨[.sh, .bo, .sh], fun ds Q X => ∃ (n : Nat) (ps : List (Int × Int)) (row : List Int) (k : Int), ds = [graphD n ps, .lst (row.map D.int), .int k] ∧ okG n ps ∧ n < line ∧ 2 * ps.length + 2 < line ∧ row.length < line ∧ k.natAbs.log2 < 1900 ∧
  (row.length ≠ ps.length → X ⟨"BadRow", [("length", .int row.length)]⟩) ∧
  (row.length = ps.length → k < 2 → X ⟨"BadModulus", [("modulus", .int k)]⟩) ∧
  (row.length = ps.length → 2 ≤ k → ∀ (e : Nat) x, row[e]? = some x → ¬ inM k x → (∀ (e' : Nat) x', e' < e → row[e']? = some x' → inM k x') → X ⟨"BadAmount", [("edge", .int e)]⟩) ∧
  (row.length = ps.length → 2 ≤ k → (∀ x ∈ row, inM k x) → ∀ v, v < n → ¬ goodR (nk ps row ps.length v) k → (∀ u, u < v → goodR (nk ps row ps.length u) k) → X ⟨"Unbalanced", [("vertex", .int v)]⟩) ∧
  (row.length = ps.length → 2 ≤ k → (∀ x ∈ row, inM k x) → (∀ v, v < n → goodR (nk ps row ps.length v) k) → ∀ am, LiftA k row am → (∀ v, v < n → nk ps am ps.length v = 0) → Q (.fr (am.map D.int)) [])⟩
/-- the state of lift's loops -/
def LS (n : Nat) (ps : List (Int × Int)) (row : List Int) (k : Int) (j : Nat) (am : List Int) (s7 : Sl) (ρ : En) : Prop := ∃ s3 s4 s8 s10 s11 s12 s13, ρ = [.sh (graphD n ps), .bo (row.map D.int), .sh (.int k), s3, s4, .ow (am.map D.int), .ow (netL n (nk ps am ps.length)), s7, s8, .top, s10, s11, s12, s13] ∧ (NI s3 ∧ NI s4 ∧ NI s7 ∧ NI s8 ∧ NI s10 ∧ NI s11 ∧ NI s12 ∧ NI s13) ∧
  LiftA k row am ∧ (∀ v, v < n → nk ps am ps.length v % k = 0) ∧ ∀ u, u < j → u < n → nk ps am ps.length u ≤ 0
theorem p_lift (h : LiftG Γ) : ∀ ds Q X, liftX.sp ds Q X → dDef Γ [.sh, .bo, .sh] 11 b_lift ds Q X := by
  rintro ds Q X ⟨n, ps, row, k, rfl, ok, hn, hp, hl, hs, q1, q2, q3, q4, q5⟩
  have hb : line < 2 ^ 62 := by decide
  obtain ⟨fm, m1, m2⟩ := h.xm
  obtain ⟨fa, a1, a2⟩ := h.xa
  conv => whnf
  rw [h.r]
  refine ⟨List.nodup_nil, fun _ h => (by cases h), n, ps, row.map D.int, rfl, by rw [List.length_map]; omega, fun e => ?_, fun e => ⟨rfl, ?_⟩⟩
  case refine_2 =>
    rw [List.length_map] at e ⊢
    exact q1 e
  rw [List.length_map] at e
  by_cases hk : k < 2
  · refine ite_t (decide_eq_true hk) ?_
    refine ⟨by show 1 ≤ 1000; decide, ?_⟩
    refine w1_at m1 ?_
    exact w1_at (m2 k hs) (q2 e hk)
  refine ite_f (c := decide (k < 2) = true) (by simp; omega) ?_
  have hk2 : 2 ≤ k := by omega
  refine ⟨rfl, fun j ρ => ∃ s3 s4, ρ = [.sh (graphD n ps), .bo (row.map D.int), .sh (.int k), s3, s4, .top, .top, .top, .top, .top, .top, .top, .top, .top] ∧ isIo (some s3) = false ∧ isIo (some s4) = false ∧ ∀ (e : Nat) x, e < j → row[e]? = some x → inM k x, ⟨_, _, rfl, rfl, rfl, fun u _ h => (by omega)⟩, ?_, ?_⟩
  · rintro j ρ d hd ⟨s3, s4, rfl, i3, i4, dn⟩
    obtain ⟨x, hx, rfl⟩ := getE hd
    rw [List.getElem?_map] at hx
    obtain ⟨x, hx', rfl⟩ := Option.map_eq_some_iff.mp hx
    replace hx := hx'
    refine ⟨i3, i4, rfl, ?_⟩
    have bad : ¬ inM k x → dSs Γ (.cons (.rais "BadAmount" (.cons (.var 3) .nil)) .nil) [.sh (graphD n ps), .bo (row.map D.int), .sh (.int k), .sh (.int (j : Int)), .sh (.int x), .top, .top, .top, .top, .top, .top, .top, .top, .top] ⟨fun _ => False, fun _ _ => False, fun _ => False, fun _ => False, fun x _ => X x⟩ := fun h => by
      refine ⟨by show 1 ≤ 1000; decide, ?_⟩
      refine w1_at a1 ?_
      exact w1_at (a2 _ (log_nat (by have := (List.getElem?_eq_some_iff.mp hx).1; omega))) (q3 e hk2 j x hx h fun e' x' h1 h2 => dn e' x' h1 h2)
    by_cases h0 : 0 ≤ x
    · refine ite_t (decide_eq_true h0) ?_
      by_cases h1 : x < k
      · refine ite_f (c := (!decide (x < k)) = true) (by simp [h1]) ?_
        refine ⟨_, _, rfl, rfl, rfl, fun e' x' h2 h3 => ?_⟩
        by_cases e2 : e' = j
        · subst e2
          rw [hx] at h3
          cases h3
          exact ⟨h0, h1⟩
        · exact dn e' x' (by omega) h3
      · refine ite_t (c := (!decide (x < k)) = true) (by simp [h1]) ?_
        exact bad fun z => h1 z.2
    · refine ite_f (c := decide (0 ≤ x) = true) (by simp [h0]) ?_
      exact bad fun z => h0 z.1
  · rintro ρ ⟨s3, s4, rfl, i3, i4, dn⟩
    rw [enumD_len, List.length_map] at dn
    have hr : ∀ x ∈ row, inM k x := fun x hx => by
      obtain ⟨i, hi, rfl⟩ := List.getElem_of_mem hx
      exact dn i _ hi (List.getElem?_eq_getElem hi)
    conv => whnf
    rw [h.u]
    refine ⟨List.nodup_nil, fun _ h => (by cases h), n, ps, row, k, rfl, ok, e, hn, by omega, by omega, fun g => ?_, fun v h1 h2 h3 => ⟨rfl, q4 e hk2 hr v h1 h2 h3⟩⟩
    refine ⟨rfl, ?_⟩
    conv => whnf
    rw [h.i]
    refine ⟨List.nodup_nil, fun _ h => (by cases h), n, ps, row, rfl, ok, e, hn, by omega, ?_⟩
    refine ⟨rfl, ?_⟩
    conv => whnf
    rw [h.v]
    refine ⟨List.nodup_nil, fun _ h => (by cases h), n, ps, rfl, ?_⟩
    refine ⟨⟨by omega, by omega⟩, fun j ρ => ∃ am s7, LS n ps row k j am s7 ρ, ⟨row, .top, s3, s4, .top, .top, .top, .top, .top, rfl, ⟨i3, i4, rfl, rfl, rfl, rfl, rfl, rfl⟩, ⟨rfl, fun e x y h1 h2 => ?_⟩, fun v hv => ?_, fun u hu => (by omega)⟩, ?_, ?_⟩
    · rw [h1] at h2
      cases h2
      exact .inl rfl
    · rcases g v hv with g | g
      · rw [g]
        exact Int.zero_emod _
      · exact g.2
    · rintro j ρ d hd ⟨am, s7, s3, s4, s8, s10, s11, s12, s13, rfl, ⟨i3, i4, i7, i8, i10, i11, i12, i13⟩, L, hm, hle⟩
      obtain ⟨hj, rfl⟩ := getR hd
      refine ⟨i7, ?_⟩
      refine ⟨fun m ρ => ∃ am, LS n ps row k j am (.sh (.int (j : Int))) ρ ∧ m = (nk ps am ps.length j).toNat, ⟨_, am, ⟨s3, s4, s8, s10, s11, s12, s13, (by rw [Int.zero_add] <;> rfl), ⟨i3, i4, rfl, i8, i10, i11, i12, i13⟩, L, hm, hle⟩, rfl⟩, ?_⟩
      rintro m ρ ⟨am, ⟨s3, s4, s8, s10, s11, s12, s13, rfl, ⟨i3, i4, i7, i8, i10, i11, i12, i13⟩, L, hm, hle⟩, rfl⟩
      have hjn : j < n := by omega
      have hla : am.length = ps.length := by rw [L.1, e]
      refine w1_at (lst_at (netL_get hj)) ?_
      refine w1_at rfl ?_
      refine w1_at rfl ?_
      refine w1_at rfl ?_
      by_cases hc : 0 < nk ps am ps.length j
      · refine ite_t (decide_eq_true hc) ?_
        conv => whnf
        have hga : ∀ c, c ≤ n → ((List.range c).map fun v => D.bl (decide (nk ps am ps.length v < 0))).length = c := fun c _ => by
          rw [List.length_map, List.length_range]
        refine ⟨rfl, fun c acc ρ => ρ = [.sh (graphD n ps), .bo (row.map D.int), .sh (.int k), s3, s4, .ow (am.map D.int), .bo (netL n (nk ps am ps.length)), .sh (.int (j : Int)), s8, .top, s10, s11, s12, s13] ∧ acc = (List.range c).map fun v => D.bl (decide (nk ps am ps.length v < 0)), ⟨rfl, rfl⟩, ?_, ?_⟩
        · rintro c acc ρ d hd ⟨rfl, rfl⟩
          have hcn : c < n := by
            have := (List.getElem?_eq_some_iff.mp hd).1
            rw [netL_len] at this
            exact this
          rw [netL_get hcn] at hd
          cases hd
          refine ⟨rfl, ?_⟩
          refine ⟨?_, ?_, ?_⟩
          · rw [List.length_map, List.length_range]
            omega
          · rfl
          · rw [List.range_succ, List.map_append] <;> rfl
        · rintro acc ρ ⟨rfl, rfl⟩
          rw [netL_len]
          refine ⟨rfl, sameB_set, ?_⟩
          conv => whnf
          rw [h.c]
          refine ⟨List.nodup_nil, fun _ h => (by cases h), am, rfl, by omega, ?_⟩
          conv => whnf
          rw [h.s]
          have hgl : ((List.range n).map fun v => decide (nk ps am ps.length v < 0)).length = n := by rw [List.length_map, List.length_range]
          have hgt : ∀ v b, ((List.range n).map fun v => decide (nk ps am ps.length v < 0))[v]? = some b → v < n ∧ b = decide (nk ps am ps.length v < 0) := fun v b hb => by
            have hv : v < n := by
              have := (List.getElem?_eq_some_iff.mp hb).1
              rw [hgl] at this
              exact this
            rw [List.getElem?_map, List.getElem?_range hv] at hb
            cases hb
            exact ⟨hv, rfl⟩
          refine ⟨List.nodup_nil, fun _ h => (by cases h), n, ps, j, (List.range n).map fun v => decide (nk ps am ps.length v < 0), am.map chgG, by simp only [List.map_map] <;> rfl, hjn, hgl, ok, hn, by rw [List.length_map, hla], fun l hl => ?_, hp, fun no => ?_, fun xs vs g W nd hvs hg _ => ?_⟩
          · obtain ⟨a, _, rfl⟩ := List.mem_map.mp hl
            exact chg_len a
          · obtain ⟨v, h1, h2, h3⟩ := goal_ex ok hla hjn hc
            have := (hgt v false (no v h2)).2
            simp [h3] at this
          · obtain ⟨hgn, hgd⟩ := hgt g true hg
            have hgneg : nk ps am ps.length g < 0 := of_decide_eq_true hgd.symm
            refine ⟨i8, ?_⟩
            refine ⟨i10, ?_⟩
            refine ⟨fun c ρ => ∃ u s3 s8 s11 s12 s13, vs[c]? = some u ∧ NI s3 ∧ NI s8 ∧ NI s11 ∧ NI s12 ∧ NI s13 ∧ ρ = [.sh (graphD n ps), .bo (row.map D.int), .sh (.int k), s3, s4, .ow (((xs.take c).foldl (putS k) am).map D.int), .ow (netL n (nk ps am ps.length)), .sh (.int (j : Int)), s8, .top, .sh (.int (u : Nat)), s11, s12, s13],
              ⟨j, s3, _, s11, s12, s13, ?_, i3, ?_, i11, i12, i13, rfl⟩, ?_, ?_⟩
            · obtain ⟨u, h1, h2, h3⟩ := W.take 0 (Nat.zero_le _)
              rw [List.take_zero] at h2
              rw [h1, h2.zero rfl]
            · exact rfl
            · rintro c ρ d hd ⟨u, s3, s8, s11, s12, s13, hu, i3, i8, i11, i12, i13, rfl⟩
              rw [List.getElem?_map] at hd
              obtain ⟨y, hy, rfl⟩ := Option.map_eq_some_iff.mp hd
              have hcx := (List.getElem?_eq_some_iff.mp hy).1
              obtain ⟨u', h1, h2, h3⟩ := W.take c (by omega)
              rw [hu] at h1
              cases h1
              obtain ⟨z, hz, hvz⟩ := h3 y hy
              obtain ⟨e1, p, hpe, he1, hse, hst⟩ := steps_mem.mp hz
              obtain ⟨y1, y2⟩ := y
              have he1 : y1 = (e1 : Int) := he1
              subst he1
              have hst : stepP y2 p = ((u : Int), (z : Int)) := hst
              have hel : e1 < ps.length := (List.getElem?_eq_some_iff.mp hpe).1
              have l0 := lk0 (n := n) (ps := ps) (m := "ends") (by decide +kernel) (by decide +kernel) (by decide +kernel)
              refine ⟨i3, i11, rfl, l0, by rw [h.e] <;> rfl, ?_⟩
              conv => whnf
              rw [h.e]
              refine ⟨List.nodup_nil, fun _ h => (by cases h), n, ps, e1, p, rfl, hpe, ?_⟩
              refine ⟨i12, i13, rfl, ?_⟩
              have hx : am[e1]? = some am[e1] := List.getElem?_eq_getElem (by omega)
              generalize am[e1] = x at hx
              have gd : (am.map chgG).getD e1 [] = chgG x := by
                rw [List.getD_eq_getElem?_getD, List.getElem?_map, hx] <;> rfl
              rw [gd] at hse
              have hs12 : y2 = 1 ∨ y2 = -1 := by
                rcases chg_mem hse with h | h
                · exact .inr h.2
                · exact .inl h.2
              have hlf : ((xs.take c).foldl (putS k) am).length = ps.length := by rw [puts_len, hla]
              generalize hbm : (xs.take c).foldl (putS k) am = bm at hlf
              have hxb : bm[e1]? = some bm[e1] := List.getElem?_eq_getElem (by omega)
              generalize bm[e1] = b at hxb
              have hnext : (xs.take (c + 1)).foldl (putS k) am = bm.set e1 (b + y2 * k) := by
                rw [List.take_succ_eq_append_getElem hcx, (List.getElem?_eq_some_iff.mp hy).2, List.foldl_append, hbm, List.foldl_cons, List.foldl_nil]
                unfold putS
                rw [Int.toNat_natCast, List.getD_eq_getElem?_getD, hxb] <;> rfl
              have mulok : L2.CMulW y2 k := by
                unfold L2.CMulW
                rcases hs12 with rfl | rfl
                · have : (1 : Int).natAbs.log2 = 0 := by decide
                  omega
                · have : (-1 : Int).natAbs.log2 = 0 := by decide
                  omega
              have hix : L2.ixN (bm.map D.int).length ((e1 : Nat) : Int) = some e1 := by
                have := ixN_at (m := (bm.map D.int).length) (v := ((e1 : Nat) : Int)) (by omega) (by rw [List.length_map]; omega)
                rw [Int.toNat_natCast] at this
                exact this
              have hgb : (bm.map D.int)[e1]? = some (.int b) := by rw [List.getElem?_map, hxb] <;> rfl
              by_cases hy1 : y2 = 1
              · refine ite_t (decide_eq_true hy1) ?_
                have ez : p.2 = (z : Int) := by
                  rw [hy1] at hst
                  exact congrArg Prod.snd hst
                rw [ez]
                refine ⟨rfl, ?_⟩
                refine w1_at hix ?_
                conv => whnf
                rw [hgb]
                refine ⟨mulok, ?_⟩
                refine ⟨rfl, z, .sh (.int (e1 : Nat)), s8, .sh (.int y2), .sh (.int p.1), .sh (.int z), hvz, rfl, i8, rfl, rfl, rfl, ?_⟩
                rw [hnext, List.map_set]
                rfl
              · refine ite_f (c := decide (y2 = 1) = true) (by simp [hy1]) ?_
                have ez : p.1 = (z : Int) := by
                  unfold stepP at hst
                  rw [if_neg hy1] at hst
                  exact congrArg Prod.snd hst
                rw [ez]
                refine ⟨rfl, ?_⟩
                refine w1_at hix ?_
                conv => whnf
                rw [hgb]
                refine ⟨mulok, ?_⟩
                refine ⟨rfl, z, .sh (.int (e1 : Nat)), s8, .sh (.int y2), .sh (.int z), .sh (.int p.2), hvz, rfl, i8, rfl, rfl, rfl, ?_⟩
                rw [hnext, List.map_set]
                rfl
            · rintro ρ ⟨u, s3, s8, s11, s12, s13, hu, i3, i8, i11, i12, i13, rfl⟩
              rw [List.length_map] at hu
              rw [List.length_map, List.take_length]
              have hug : u = g := by
                have l := W.last
                have hd : vs.dropLast.length = xs.length := by rw [List.length_dropLast, W.len] <;> rfl
                rw [l, List.getElem?_append_right (by omega), hd, Nat.sub_self] at hu
                cases hu
                rfl
              subst hug
              have A := (along (k := k) hla W).2 nd
              have L2' := lift_along (fun x hx => hr x hx) L A
              have hju : u ≠ j := fun z => by
                subst z
                omega
              have ix1 : ∀ (f : Nat → Int) (v : Nat), v < n → L2.ixN (netL n f).length ((v : Nat) : Int) = some v := fun f v hv => by
                have := ixN_at (m := (netL n f).length) (v := ((v : Nat) : Int)) (by omega) (by rw [netL_len]; omega)
                rw [Int.toNat_natCast] at this
                exact this
              refine w1_at (ix1 _ j hjn) ?_
              conv => whnf
              rw [show (netL n (nk ps am ps.length))[j]? = _ from netL_get hjn]
              refine ⟨rfl, ?_⟩
              conv => whnf
              rw [netL_set hjn]
              refine w1_at (ix1 _ u hgn) ?_
              conv => whnf
              rw [show (netL n _)[u]? = _ from netL_get hgn]
              refine ⟨rfl, ?_⟩
              conv => whnf
              rw [netL_set hgn, if_neg hju]
              have hnet : netL n (fun v => if v = u then nk ps am ps.length u + k else if v = j then nk ps am ps.length j - k else nk ps am ps.length v) = netL n (nk ps (xs.foldl (putS k) am) ps.length) := netL_congr fun v hv => by
                rw [A.net v]
                by_cases e1 : v = u
                · subst e1
                  rw [if_pos rfl, if_pos rfl, if_neg hju]
                  omega
                · rw [if_neg e1, if_neg e1]
                  by_cases e2 : v = j
                  · subst e2
                    rw [if_pos rfl, if_pos rfl]
                    omega
                  · rw [if_neg e2, if_neg e2]
                    omega
              rw [hnet]
              have mj := hm j hjn
              have mu := hm u hgn
              have hkj : k ≤ nk ps am ps.length j := by
                have := Int.le_of_dvd hc (Int.dvd_of_emod_eq_zero mj)
                exact this
              have hku : nk ps am ps.length u + k ≤ 0 := by
                have := Int.le_of_dvd (show 0 < - nk ps am ps.length u by omega) ((Int.dvd_neg).mpr (Int.dvd_of_emod_eq_zero mu))
                omega
              refine ⟨(nk ps (xs.foldl (putS k) am) ps.length j).toNat, ?_, xs.foldl (putS k) am, ⟨s3, s4, s8, _, s11, s12, s13, rfl, ⟨i3, i4, rfl, i8, rfl, i11, i12, i13⟩, L2', fun v hv => ?_, fun v hv hv2 => ?_⟩, rfl⟩
              · rw [A.net j, if_pos rfl, if_neg (Ne.symm hju)]
                omega
              · rw [A.net v]
                have d1 := Int.dvd_of_emod_eq_zero (hm v hv)
                refine Int.emod_eq_zero_of_dvd (Int.dvd_add (Int.dvd_sub d1 ?_) ?_)
                · split
                  · exact Int.dvd_refl k
                  · exact Int.dvd_zero k
                · split
                  · exact Int.dvd_refl k
                  · exact Int.dvd_zero k
              · rw [A.net v, if_neg (by omega)]
                have := hle v hv hv2
                split
                · rename_i e1
                  subst e1
                  omega
                · omega
      · refine ite_f (c := decide (nk ps am ps.length j > 0) = true) (by simp; omega) ?_
        refine ⟨am, .sh (.int (j : Int)), s3, s4, s8, s10, s11, s12, s13, rfl, ⟨i3, i4, rfl, i8, i10, i11, i12, i13⟩, L, hm, fun u hu hu2 => ?_⟩
        by_cases e2 : u = j
        · subst e2
          omega
        · exact hle u (by omega) hu2
    · rintro ρ ⟨am, s7, s3, s4, s8, s10, s11, s12, s13, rfl, ⟨i3, i4, i7, i8, i10, i11, i12, i13⟩, L, hm, hle⟩
      rw [rngD_len, show ((n : Int) - 0).toNat = n by omega] at hle
      exact ⟨_, _, rfl, rfl, q5 e hk2 hr g am L (nk_done ok (by rw [L.1, e]) fun v hv => hle v (by omega) hv)⟩
end
end M
set_option linter.all false
set_option Elab.async false
set_option maxRecDepth 10000
set_option maxHeartbeats 4000000
set_option pp.maxSteps 400
/-! K14T: the law's errors; rows that are balanced modulo the modulus. -/
namespace M
open PySem PySem.Spec PyProof.Rows L2 C8
section
variable {Γ : Tb}
structure ErrG14 (Γ : Tb) : Prop where
  li : Γ.fk "lift" ["modulus"] = some liftX
  x1 : Γ.isx "BadRow" "FlowError" = some true
  x2 : Γ.isx "BadModulus" "FlowError" = some true
  x3 : Γ.isx "BadAmount" "FlowError" = some true
  x4 : Γ.isx "Unbalanced" "FlowError" = some true
  r1 : Γ.isx "BadRow" "BadRow" = some true
  m1 : Γ.isx "BadModulus" "BadRow" = some false
  m2 : Γ.isx "BadModulus" "BadModulus" = some true
  a1 : Γ.isx "BadAmount" "BadRow" = some false
  a2 : Γ.isx "BadAmount" "BadModulus" = some false
  a3 : Γ.isx "BadAmount" "BadAmount" = some true
  u1 : Γ.isx "Unbalanced" "BadRow" = some false
  u2 : Γ.isx "Unbalanced" "BadModulus" = some false
  u3 : Γ.isx "Unbalanced" "BadAmount" = some false
  u4 : Γ.isx "Unbalanced" "Unbalanced" = some true
  f1 : Γ.xfl "BadRow" "length" = true
  f2 : Γ.xfl "BadModulus" "modulus" = true
  f3 : Γ.xfl "BadAmount" "edge" = true
  f4 : Γ.xfl "Unbalanced" "vertex" = true
def er14H : HS := .iff (.is "BadRow") (.tup (.cons (.str "row") (.cons (.att "length") .nil))) (.iff (.is "BadModulus") (.tup (.cons (.str "modulus") (.cons (.att "modulus") .nil))) (.iff (.is "BadAmount") (.tup (.cons (.str "amount") (.cons (.att "edge") .nil))) (.ret (.ife (.is "Unbalanced") (.tup (.cons (.str "unbalanced") (.cons (.att "vertex") .nil))) (.tup (.cons (.str "other") (.cons (.int 0) .nil)))))))
theorem er14_row (h : ErrG14 Γ) (d : D) : hS Γ.isx Γ.xfl ⟨"BadRow", [("length", d)]⟩ er14H = some (.tup [.str "row", d]) := by
  have l2 : (2 : Nat) ≤ line := by decide
  simp only [er14H, hS, hB, hX, hXs, h.r1, h.f1, if_true, List.lookup_cons, beq_self_eq_true, Option.map_some, List.length_cons, List.length_nil, Nat.zero_add, Nat.reduceAdd, l2]
theorem er14_mod (h : ErrG14 Γ) (d : D) : hS Γ.isx Γ.xfl ⟨"BadModulus", [("modulus", d)]⟩ er14H = some (.tup [.str "modulus", d]) := by
  have l2 : (2 : Nat) ≤ line := by decide
  simp only [er14H, hS, hB, hX, hXs, h.m1, h.m2, h.f2, if_true, List.lookup_cons, beq_self_eq_true, Option.map_some, List.length_cons, List.length_nil, Nat.zero_add, Nat.reduceAdd, l2]
theorem er14_am (h : ErrG14 Γ) (d : D) : hS Γ.isx Γ.xfl ⟨"BadAmount", [("edge", d)]⟩ er14H = some (.tup [.str "amount", d]) := by
  have l2 : (2 : Nat) ≤ line := by decide
  simp only [er14H, hS, hB, hX, hXs, h.a1, h.a2, h.a3, h.f3, if_true, List.lookup_cons, beq_self_eq_true, Option.map_some, List.length_cons, List.length_nil, Nat.zero_add, Nat.reduceAdd, l2]
theorem er14_un (h : ErrG14 Γ) (d : D) : hS Γ.isx Γ.xfl ⟨"Unbalanced", [("vertex", d)]⟩ er14H = some (.tup [.str "unbalanced", d]) := by
  have l2 : (2 : Nat) ≤ line := by decide
  simp only [er14H, hS, hB, hX, hXs, h.u1, h.u2, h.u3, h.u4, h.f4, if_true, List.lookup_cons, beq_self_eq_true, Option.map_some, List.length_cons, List.length_nil, Nat.zero_add, Nat.reduceAdd, l2]
/-- what is told of the row -/
def Told (n : Nat) (ps : List (Int × Int)) (row : List Int) (k : Int) (Q : D → Prop) : Prop :=
  (row.length ≠ ps.length → Q (tagD "row" row.length)) ∧
  (row.length = ps.length → k < 2 → Q (tagD "modulus" k)) ∧
  (row.length = ps.length → 2 ≤ k → ∀ (e : Nat) x, row[e]? = some x → ¬ inM k x → (∀ (e' : Nat) x', e' < e → row[e']? = some x' → inM k x') → Q (tagD "amount" e)) ∧
  (row.length = ps.length → 2 ≤ k → (∀ x ∈ row, inM k x) → ∀ v : Nat, v < n → ¬ goodR (nk ps row ps.length v) k → (∀ u, u < v → goodR (nk ps row ps.length u) k) → Q (tagD "unbalanced" v)) ∧
  (row.length = ps.length → 2 ≤ k → (∀ x ∈ row, inM k x) → (∀ v, v < n → goodR (nk ps row ps.length v) k) → ∀ am, LiftA k row am → (∀ v, v < n → nk ps am ps.length v = 0) → Q (.tup [.str "flow", .lst (am.map D.int)]))
def told14F : Fn := ⟨[.sh, .bo, .sh], fun ds Q _ => ∃ (n : Nat) (ps : List (Int × Int)) (row : List Int) (k : Int), ds = [graphD n ps, .lst (row.map D.int), .int k] ∧ okG n ps ∧ n < line ∧ 2 * ps.length + 2 < line ∧ row.length < line ∧ k.natAbs.log2 < 1900 ∧ Told n ps row k fun d => Q (.sh d) []⟩
theorem p_told14 (h : ErrG14 Γ) : ∀ ds Q X, told14F.sp ds Q X → dDef Γ [.sh, .bo, .sh] 1 b_law_told14 ds Q X := by
  rintro ds Q X ⟨n, ps, row, k, rfl, ok, hn, hp, hl, hs, q1, q2, q3, q4, q5⟩
  conv => whnf
  rw [h.li]
  refine ⟨List.nodup_nil, fun _ h => (by cases h), n, ps, row, k, rfl, ok, hn, hp, hl, hs, fun e => ⟨rfl, h.x1, show 3 < 4 by decide, ?_⟩, fun e e2 => ⟨rfl, h.x2, show 3 < 4 by decide, ?_⟩, fun e e2 i x g1 g2 g3 => ⟨rfl, h.x3, show 3 < 4 by decide, ?_⟩, fun e e2 g1 v g2 g3 g4 => ⟨rfl, h.x4, show 3 < 4 by decide, ?_⟩, fun e e2 g1 g2 am g3 g4 => ?_⟩
  · exact w1_at (er14_row h _) ⟨_, _, rfl, rfl, q1 e⟩
  · exact w1_at (er14_mod h _) ⟨_, _, rfl, rfl, q2 e e2⟩
  · exact w1_at (er14_am h _) ⟨_, _, rfl, rfl, q3 e e2 i x g1 g2 g3⟩
  · exact w1_at (er14_un h _) ⟨_, _, rfl, rfl, q4 e e2 g1 v g2 g3 g4⟩
  · exact ⟨show 2 ≤ line by decide, _, _, rfl, rfl, q5 e e2 g1 g2 am g3 g4⟩
/-! ### rows -/
def resRowF : Fn := ⟨[.io, .sh, .bo, .sh], fun ds Q _ => ∃ (xs : List Int) (p n m : Nat) (ps : List (Int × Int)), ds = [stD xs p, .int n, .lst (ps.map pairD), .int m] ∧ 0 < xs.length ∧ xs.length < line ∧ small xs ∧ p + 200 < 1000000 ∧ okG n ps ∧ n ≤ 20 ∧ ps.length ≤ 20 ∧ 0 < m ∧ m ≤ 1000 ∧
  ∀ (row : List Int) (p' : Nat), row.length = ps.length → (∀ a ∈ row, 0 ≤ a ∧ a < m) → p' ≤ p + 130 → Q (.fr (row.map D.int)) [stL xs p']⟩
theorem p_res_row (hf : Γ.f "_law_some_flow" = some flowF) : ∀ ds Q X, resRowF.sp ds Q X → dDef Γ [.io, .sh, .bo, .sh] 1 b_law_residue_row ds Q X := by
  rintro ds Q X ⟨xs, p, n, m, ps, rfl, h0, hl, hs, hp, ok, hn, hps, hm, hm2, q⟩
  have hb : 1000 < line := by decide
  conv => whnf
  rw [hf]
  refine ⟨(show ([0] : List Nat).Nodup by decide), (show ∀ i ∈ [0], i ∉ [2] by decide), xs, p, n, m, ps, rfl, h0, hl, hs, hp, ok, hn, hps, hm, hm2, fun row p' h1 h2 h3 => ?_⟩
  refine ⟨rfl, fun k acc ρ => acc = ((row.take k).map fun a => a % (m : Int)).map D.int ∧ ρ = [.io (stL xs p'), .sh (.int n), .bo (ps.map pairD), .sh (.int m), .top], ⟨rfl, rfl⟩, ?_, ?_⟩
  · rintro k acc ρ d hd ⟨rfl, rfl⟩
    rw [List.getElem?_map] at hd
    obtain ⟨a, ha, rfl⟩ := Option.map_eq_some_iff.mp hd
    have hk := (List.getElem?_eq_some_iff.mp ha).1
    refine ⟨rfl, ?_⟩
    refine ⟨show (0 : Int) < m by omega, ?_⟩
    refine ⟨by rw [List.length_map, List.length_map, List.length_take]; omega, ?_, rfl⟩
    rw [List.take_succ_eq_append_getElem hk, (List.getElem?_eq_some_iff.mp ha).2, List.map_append, List.map_append] <;> rfl
  · rintro acc ρ ⟨rfl, rfl⟩
    rw [List.length_map, List.take_length]
    refine ⟨_, _, rfl, rfl, q _ p' (by rw [List.length_map, h1]) (fun a ha => ?_) h3⟩
    obtain ⟨b, _, rfl⟩ := List.mem_map.mp ha
    exact ⟨Int.emod_nonneg _ (by omega), Int.emod_lt_of_pos _ (by omega)⟩
end
end M
set_option linter.all false
set_option Elab.async false
set_option maxRecDepth 10000
set_option maxHeartbeats 4000000
set_option pp.maxSteps 500
/-! K14U: the law's judge. -/
namespace M
open PySem PySem.Spec PyProof.Rows L2 C8
theorem s_amount : PyData.strOk ("amount" : Str) = true ∧ (reprText ("amount" : Str)).length ≤ 20 := by decide +kernel
theorem s_unbal : PyData.strOk ("unbalanced" : Str) = true ∧ (reprText ("unbalanced" : Str)).length ≤ 20 := by decide +kernel
theorem dNe_ints (xs : List Int) : dCm .ne (.lst (xs.map D.int)) (.lst (xs.map D.int)) = some false := by
  show (dEq _ _).map (!·) = _
  rw [dEq_ints, decide_eq_true rfl] <;> rfl
theorem fil_first {m i : Nat} {p : Nat → Bool} (hi : i < m) (h1 : p i = true) (h2 : ∀ j, j < i → p j = false) : ∃ l, (List.range m).filter p = i :: l := by
  obtain ⟨b, rfl⟩ : ∃ b, m = i + (b + 1) := ⟨m - i - 1, by omega⟩
  rw [List.range_add, List.filter_append, List.filter_eq_nil_iff.mpr fun j hj => by rw [h2 j (List.mem_range.mp hj)]; exact Bool.false_ne_true, List.nil_append, List.range_succ_eq_map, List.map_cons, Nat.add_zero, List.filter_cons, if_pos h1]
  exact ⟨_, rfl⟩
section
variable {Γ : Tb}
structure AskG14 (Γ : Tb) : Prop where
  to : Γ.f "_law_told" = some told14F
  rs : Γ.f "_law_rests" = some restsF
def ask14F : Fn := ⟨[.sh, .sh, .bo, .bo, .sh], fun ds Q _ => ∃ (n : Nat) (ps : List (Int × Int)) (row : List Int) (k : Int), ds = [graphD n ps, .int n, .lst (ps.map pairD), .lst (row.map D.int), .int k] ∧ okG n ps ∧ n ≤ 100 ∧ ps.length ≤ 100 ∧ row.length ≤ 200 ∧ big k ∧ Q (.sh (.bl true)) []⟩
instance {k x : Int} : Decidable (inM k x) := inferInstanceAs (Decidable (0 ≤ x ∧ x < k))
theorem dNin_ints {y : Int} {ys : List Int} (h : y ∈ ys) : dCm .notin (.int y) (.lst (ys.map D.int)) = some false := by
  show (dIn (.int y) (ys.map D.int)).map (!·) = _
  unfold dIn
  rw [show D.pl 20 (.int y) = true from rfl, show (ys.map D.int).all (D.pl 20) = true from pl_ints 20 ys, Bool.and_self, if_pos (rfl : true = true)]
  rw [show ((ys.map D.int).any fun d => PyData.eqv d.py (D.int y).py) = true from ?_]
  · rfl
  · exact List.any_eq_true.mpr ⟨.int y, List.mem_map_of_mem h, (show (y == y) = true by simp)⟩
def badR (row : List Int) (k : Int) : List Nat := (List.range row.length).filter fun e => !decide (inM k (row.getD e 0))
def badV (n : Nat) (f : Nat → Int) (k : Int) : List Nat := (List.range n).filter fun v => !decide (f v % k = 0)
theorem dNe_nil (es : List Nat) : dCm .ne (.lst (es.map natD)) (.lst []) = some (!decide (es = [])) := by
  show Option.map (!·) (if D.pl 20 (.lst (es.map natD)) && D.pl 20 (.lst []) then some (PyData.eqv (D.lst (es.map natD)).py (D.lst []).py) else none) = _
  rw [pl_nats 19, show D.pl 20 (.lst []) = true from rfl, Bool.and_self, if_pos (rfl : true = true), py_lst, py_lst]
  cases es <;> rfl
def stA (n : Nat) (ps : List (Int × Int)) (row : List Int) (k : Int) (t : D) (s7 s8 s9 s10 s11 s12 : Sl) : En := [.sh (graphD n ps), .sh (.int n), .bo (ps.map pairD), .bo (row.map D.int), .sh (.int k), .ow (row.map D.int), .sh t, s7, s8, s9, s10, s11, s12]
theorem ask14_bad {P : Po} {n : Nat} {ps : List (Int × Int)} {row : List Int} {k : Int} {t : D} (hl : row.length ≤ 200) (nx : dSs Γ (tlS 6 b_law_asked14) (stA n ps row k t (.ow ((badR row k).map natD)) .top .top .top .top .top) P) :
    dSs Γ (tlS 5 b_law_asked14) (stA n ps row k t .top .top .top .top .top .top) P := by
  have hb : 100000 < line := by decide
  have hb2 : line < 2 ^ 62 := by decide
  refine ⟨⟨by rw [List.length_map]; omega, by rw [List.length_map]; omega⟩, ?_⟩
  refine lc_fil (ds := rngD 0 ((row.map D.int).length : Int)) (fun e _ => if (!decide (inM k (row.getD e 0))) = true then some (natD e) else none) (own := [("edge", 8)]) rfl (by rw [rngD_len, List.length_map]; omega) (fun j d G N hd hG hN => ?_) ?_
  · obtain ⟨hj, rfl⟩ := getR hd
    rw [List.length_map] at hj
    have hj : j < row.length := by omega
    rw [Int.zero_add]
    have hx : row[j]? = some row[j] := List.getElem?_eq_getElem hj
    have gd : row.getD j 0 = row[j] := by rw [List.getD_eq_getElem?_getD, hx] <;> rfl
    rw [gd] at hG hN
    generalize row[j] = x at hx hG hN
    refine ⟨rfl, ?_⟩
    refine w1_at (lst_at (d := .int x) (by rw [List.getElem?_map, hx] <;> rfl)) ?_
    by_cases h0 : 0 ≤ x
    · refine ite_t (decide_eq_true h0) ?_
      by_cases h1 : x < k
      · refine ite_f (c := (!decide (x < k)) = true) (by simp [h1]) ?_
        exact hN _ (if_neg (by rw [decide_eq_true (show inM k x from ⟨h0, h1⟩)]; simp)) rfl
      · refine ite_t (c := (!decide (x < k)) = true) (by simp [h1]) ?_
        exact hG _ _ _ _ (if_pos (by rw [decide_eq_false fun z => h1 z.2] <;> rfl)) rfl rfl
    · refine ite_f (c := decide (0 ≤ x) = true) (by simp [h0]) ?_
      refine ite_t (show (!false) = true from rfl) ?_
      exact hG _ _ _ _ (if_pos (by rw [decide_eq_false fun z => h0 z.1] <;> rfl)) rfl rfl
  rw [fil_range row.length _ (by rw [rngD_len, List.length_map]; omega) (fun e => !decide (inM k (row.getD e 0))) natD _ fun k d _ => rfl]
  exact ⟨rfl, nx⟩
theorem ask14_bad2 (h : AskG14 Γ) {P : Po} {n : Nat} {ps : List (Int × Int)} {row : List Int} {k : Int} {t : D} (ok : okG n ps) (hn : n ≤ 100) (hp : ps.length ≤ 100) (e : row.length = ps.length) (hk : 2 ≤ k) (nx : dSs Γ (tlS 9 b_law_asked14) (stA n ps row k t (.ow ((badV n (nk ps row ps.length) k).map natD)) .top (.ow (netL n (nk ps row ps.length))) .top .top .top) P) :
    dSs Γ (tlS 7 b_law_asked14) (stA n ps row k t (.ow ([].map natD)) .top .top .top .top .top) P := by
  have hb : 100000 < line := by decide
  have hb2 : line < 2 ^ 62 := by decide
  conv => whnf
  rw [h.rs]
  refine ⟨List.nodup_nil, fun _ h => (by cases h), n, ps, row, rfl, ok, e, by omega, by omega, ?_⟩
  refine ⟨rfl, ?_⟩
  refine ⟨⟨by omega, by omega⟩, ?_⟩
  refine lc_fil (ds := rngD 0 (n : Int)) (fun v _ => if (!decide (nk ps row ps.length v % k = 0)) = true then some (natD v) else none) (own := [("vertex", 10)]) rfl (by rw [rngD_len]; omega) (fun j d G N hd hG hN => ?_) ?_
  · obtain ⟨hj, rfl⟩ := getR hd
    have hj : j < n := by omega
    rw [Int.zero_add]
    refine ⟨rfl, ?_⟩
    refine w1_at (lst_at (netL_get hj)) ?_
    refine ⟨show 0 < k by omega, ?_⟩
    by_cases h1 : nk ps row ps.length j % k = 0
    · refine ite_f (c := (!decide (nk ps row ps.length j % k = 0)) = true) (by simp [h1]) ?_
      exact hN _ (if_neg (by simp [h1])) rfl
    · refine ite_t (c := (!decide (nk ps row ps.length j % k = 0)) = true) (by simp [h1]) ?_
      exact hG _ _ _ _ (if_pos (by simp [h1])) rfl rfl
  rw [fil_range n _ (by rw [rngD_len]; omega) (fun v => !decide (nk ps row ps.length v % k = 0)) natD _ fun k d _ => rfl]
  exact ⟨rfl, nx⟩
theorem badR_nil {row : List Int} {k : Int} (h : ∀ x ∈ row, inM k x) : badR row k = [] := by
  refine List.filter_eq_nil_iff.mpr fun j hj => ?_
  have hj := List.mem_range.mp hj
  rw [List.getD_eq_getElem?_getD, List.getElem?_eq_getElem hj, Option.getD_some, decide_eq_true (h _ (List.getElem_mem hj))]
  exact Bool.false_ne_true
theorem ask14_end (h : AskG14 Γ) {P : Po} {n : Nat} {ps : List (Int × Int)} {row am : List Int} {k : Int} {s7 s9 : Sl} (ok : okG n ps) (hn : n ≤ 100) (hp : ps.length ≤ 100) (e : row.length = ps.length) (hk : 2 ≤ k) (hr : ∀ x ∈ row, inM k x) (L : LiftA k row am) (hz : ∀ v, v < n → nk ps am ps.length v = 0) (hP : ∀ ρ', P.rt (.sh (.bl true)) ρ') :
    dSs Γ (tlS 10 b_law_asked14) (stA n ps row k (.tup [.str "flow", .lst (am.map D.int)]) s7 .top s9 .top .top .top) P := by
  have hb : 100000 < line := by decide
  have hb2 : line < 2 ^ 62 := by decide
  have hal := L.1
  have t0 : dIx (.tup [.str "flow", .lst (am.map D.int)]) (.int 0) = some (.str "flow") := rfl
  have t1 : dIx (.tup [.str "flow", .lst (am.map D.int)]) (.int 1) = some (.lst (am.map D.int)) := rfl
  conv => whnf
  refine ⟨rfl, ?_⟩
  refine ite_f (c := (!decide (((am.map D.int).length : Int) = ((row.map D.int).length : Nat))) = true) (by simp [hal]) ?_
  refine ⟨⟨by rw [List.length_map]; omega, by rw [List.length_map]; omega⟩, ?_⟩
  refine ⟨fun _ ρ => ∃ s8 s11, NI s8 ∧ NI s11 ∧ ρ = stA n ps row k (.tup [.str "flow", .lst (am.map D.int)]) s7 s8 s9 .top s11 .top, ⟨.top, .top, rfl, rfl, rfl⟩, ?_, ?_⟩
  · rintro j ρ d hd ⟨s8, s11, i8, i11, rfl⟩
    obtain ⟨hj, rfl⟩ := getR hd
    rw [List.length_map] at hj
    have hj : j < row.length := by omega
    rw [Int.zero_add]
    have hx : row[j]? = some row[j] := List.getElem?_eq_getElem hj
    generalize row[j] = x at hx
    have hy : am[j]? = some am[j] := List.getElem?_eq_getElem (by omega)
    generalize am[j] = y at hy
    have c := L.2 j x y hx hy
    have hx' : dIx (.lst (row.map D.int)) (.int (j : Int)) = some (.int x) := lst_at (by rw [List.getElem?_map, hx] <;> rfl)
    have hy' : dIx (.lst (am.map D.int)) (.int (j : Int)) = some (.int y) := lst_at (by rw [List.getElem?_map, hy] <;> rfl)
    have r := hr x (List.mem_of_getElem? hx)
    refine ⟨i8, ?_⟩
    refine w1_at hx' ?_
    by_cases h0 : 0 < x
    · refine ite_t (decide_eq_true h0) ?_
      refine w1_at hx' ?_
      refine w1_at hx' ?_
      refine w1_at rfl ?_
      refine w1_at rfl ?_
      refine ⟨show 2 ≤ line by omega, i11, ?_⟩
      refine w1_at hy' ?_
      refine w1_at rfl ?_
      refine w1_at rfl ?_
      refine w1_at rfl ?_
      have mem : y ∈ [x, x - k] := by
        rcases c with c | c
        · rw [c]
          simp
        · rw [c.2]
          simp
      refine w1_at (dNin_ints (ys := [x, x - k]) mem) ?_
      refine ite_f Bool.false_ne_true ?_
      refine w1_at hy' ?_
      refine ⟨rfl, ?_⟩
      exact ⟨.sh (.int (j : Int)), .ow [.int x, .int (x - k)], rfl, rfl, rfl⟩
    · refine ite_f (c := decide (x > 0) = true) (by simp; omega) ?_
      refine ⟨show 1 ≤ line by omega, i11, ?_⟩
      refine w1_at hy' ?_
      refine w1_at rfl ?_
      refine w1_at rfl ?_
      refine w1_at rfl ?_
      have mem : y ∈ [0] := by
        rcases c with c | c
        · have := r.1
          exact List.mem_singleton.mpr (by omega)
        · omega
      refine w1_at (dNin_ints (ys := [0]) mem) ?_
      refine ite_f Bool.false_ne_true ?_
      refine w1_at hy' ?_
      refine ⟨rfl, ?_⟩
      exact ⟨.sh (.int (j : Int)), .ow [.int 0], rfl, rfl, rfl⟩
  · rintro ρ ⟨s8, s11, i8, i11, rfl⟩
    conv => whnf
    rw [h.rs]
    refine ⟨List.nodup_nil, fun _ h => (by cases h), n, ps, am, rfl, ok, by rw [hal, e], by omega, by omega, ?_⟩
    refine lc_fil (ds := netL n (nk ps am ps.length)) (fun _ _ => none) (own := [("rest", 12)]) rfl (by rw [netL_len]; omega) (fun j d G N hd hG hN => ?_) ?_
    · have hj : j < n := by
        have := (List.getElem?_eq_some_iff.mp hd).1
        rw [netL_len] at this
        exact this
      rw [netL_get hj, hz j hj] at hd
      cases hd
      refine ⟨rfl, ?_⟩
      exact hN _ rfl rfl
    have en : ((netL n (nk ps am ps.length)).mapIdx fun _ _ => (none : Option D)).filterMap id = [] := by
      refine List.filterMap_eq_nil_iff.mpr fun x hx => ?_
      obtain ⟨i, hi, rfl⟩ := List.mem_mapIdx.mp hx
      rfl
    rw [en]
    refine ⟨show 0 ≤ line by omega, ?_⟩
    refine w1_at rfl ?_
    refine w1_at rfl ?_
    refine w1_at (show dCm .eq (.lst []) (.lst []) = some true by decide +kernel) ?_
    exact hP _
theorem p_ask14 (h : AskG14 Γ) : ∀ ds Q X, ask14F.sp ds Q X → dDef Γ [.sh, .sh, .bo, .bo, .sh] 8 b_law_asked14 ds Q X := by
  rintro ds Q X ⟨n, ps, row, k, rfl, ok, hn, hp, hl, hk, q⟩
  have hb : 100000 < line := by decide
  have hb2 : line < 2 ^ 62 := by decide
  have hs := big_log hk
  conv => whnf
  refine ⟨rfl, ?_⟩
  conv => whnf
  rw [h.to]
  refine ⟨List.nodup_nil, fun _ h => (by cases h), n, ps, row, k, rfl, ok, by omega, by omega, by omega, by omega, fun e => ?_, fun e e2 => ?_, fun e e2 i x g1 g2 g3 => ?_, fun e e2 g1 v g2 g3 g4 => ?_, fun e e2 g1 g2 am g3 g4 => ?_⟩
  · refine ⟨rfl, ?_⟩
    refine w1_at (dNe_ints row) ?_
    refine ite_f Bool.false_ne_true ?_
    refine ite_t (c := (!decide (((row.map D.int).length : Int) = ((ps.map pairD).length : Nat))) = true) (by simp only [List.length_map, Bool.not_eq_true', decide_eq_false_iff_not]; omega) ?_
    have r := tag_rp (s := "row") (i := row.length) s_row.1 s_row.2 (big_nat (by omega))
    refine ⟨r.pl, r.ok, r.rw', show 2 ≤ line by omega, ?_⟩
    have r2 := tag_rp (s := "row") (i := (row.map D.int).length) s_row.1 s_row.2 (big_nat (by rw [List.length_map]; omega))
    refine ⟨r2.pl, r2.ok, r2.rw', ?_⟩
    refine w1_at rfl ?_
    refine w1_at rfl ?_
    refine w1_at (strEq (congrArg (fun m : Nat => (tagD "row" (m : Int)).py.shown) (List.length_map (as := row) D.int).symm)) ?_
    exact ⟨_, _, rfl, rfl, q⟩
  · refine ⟨rfl, ?_⟩
    refine w1_at (dNe_ints row) ?_
    refine ite_f Bool.false_ne_true ?_
    refine ite_f (c := (!decide (((row.map D.int).length : Int) = ((ps.map pairD).length : Nat))) = true) (by simp [e]) ?_
    refine ite_t (c := decide (k < 2) = true) (decide_eq_true e2) ?_
    have r := tag_rp (s := "modulus") (i := k) s_modulus.1 s_modulus.2 hk
    refine ⟨r.pl, r.ok, r.rw', show 2 ≤ line by omega, ?_⟩
    refine ⟨r.pl, r.ok, r.rw', ?_⟩
    refine w1_at rfl ?_
    refine w1_at rfl ?_
    refine w1_at (strEq rfl) ?_
    exact ⟨_, _, rfl, rfl, q⟩
  · refine ⟨rfl, ?_⟩
    refine w1_at (dNe_ints row) ?_
    refine ite_f Bool.false_ne_true ?_
    refine ite_f (c := (!decide (((row.map D.int).length : Int) = ((ps.map pairD).length : Nat))) = true) (by simp [e]) ?_
    refine ite_f (c := decide (k < 2) = true) (by simp; omega) ?_
    obtain ⟨l, hbad⟩ := fil_first (m := row.length) (i := i) (p := fun e => !decide (inM k (row.getD e 0))) (List.getElem?_eq_some_iff.mp g1).1 (by rw [List.getD_eq_getElem?_getD, g1, Option.getD_some, decide_eq_false g2] <;> rfl) (fun j hj => by
      have hi := (List.getElem?_eq_some_iff.mp g1).1
      rw [List.getD_eq_getElem?_getD, List.getElem?_eq_getElem (by omega), Option.getD_some, decide_eq_true (g3 j _ hj (List.getElem?_eq_getElem (by omega)))] <;> rfl)
    refine ask14_bad hl ?_
    rw [show badR row k = i :: l from hbad]
    refine ⟨show 0 ≤ line by omega, ?_⟩
    refine w1_at rfl ?_
    refine w1_at rfl ?_
    refine w1_at (dNe_nil (i :: l)) ?_
    refine ite_t (show (!decide (i :: l = [])) = true by simp) ?_
    have r := tag_rp (s := "amount") (i := i) s_amount.1 s_amount.2 (big_nat (by have := (List.getElem?_eq_some_iff.mp g1).1; omega))
    refine ⟨r.pl, r.ok, r.rw', ?_⟩
    refine w1_at (lst_at (ds := (i :: l).map natD) (i := 0) (d := natD i) rfl) ?_
    refine ⟨show 2 ≤ line by omega, ?_⟩
    refine ⟨r.pl, r.ok, r.rw', ?_⟩
    refine w1_at rfl ?_
    refine w1_at rfl ?_
    refine w1_at (strEq rfl) ?_
    exact ⟨_, _, rfl, rfl, q⟩
  · refine ⟨rfl, ?_⟩
    refine w1_at (dNe_ints row) ?_
    refine ite_f Bool.false_ne_true ?_
    refine ite_f (c := (!decide (((row.map D.int).length : Int) = ((ps.map pairD).length : Nat))) = true) (by simp [e]) ?_
    refine ite_f (c := decide (k < 2) = true) (by simp; omega) ?_
    refine ask14_bad hl ?_
    rw [badR_nil g1]
    refine ⟨show 0 ≤ line by omega, ?_⟩
    refine w1_at rfl ?_
    refine w1_at rfl ?_
    refine w1_at (dNe_nil []) ?_
    refine ite_f (show ¬ (!decide (([] : List Nat) = [])) = true by simp) ?_
    refine ask14_bad2 h ok hn hp e e2 ?_
    obtain ⟨l, hbad⟩ := fil_first (m := n) (i := v) (p := fun v => !decide (nk ps row ps.length v % k = 0)) g2 (by
      have : ¬ nk ps row ps.length v % k = 0 := fun z => g3 (.inr ⟨by omega, z⟩)
      rw [decide_eq_false this] <;> rfl) (fun j hj => by
      have : nk ps row ps.length j % k = 0 := by
        rcases g4 j hj with z | z
        · rw [z]
          exact Int.zero_emod _
        · exact z.2
      rw [decide_eq_true this] <;> rfl)
    rw [show badV n (nk ps row ps.length) k = v :: l from hbad]
    refine ⟨show 0 ≤ line by omega, ?_⟩
    refine w1_at rfl ?_
    refine w1_at rfl ?_
    refine w1_at (dNe_nil (v :: l)) ?_
    refine ite_t (show (!decide (v :: l = [])) = true by simp) ?_
    have r := tag_rp (s := "unbalanced") (i := v) s_unbal.1 s_unbal.2 (big_nat (by omega))
    refine ⟨r.pl, r.ok, r.rw', ?_⟩
    refine w1_at (lst_at (ds := (v :: l).map natD) (i := 0) (d := natD v) rfl) ?_
    refine ⟨show 2 ≤ line by omega, ?_⟩
    refine ⟨r.pl, r.ok, r.rw', ?_⟩
    refine w1_at rfl ?_
    refine w1_at rfl ?_
    refine w1_at (strEq rfl) ?_
    exact ⟨_, _, rfl, rfl, q⟩
  · refine ⟨rfl, ?_⟩
    refine w1_at (dNe_ints row) ?_
    refine ite_f Bool.false_ne_true ?_
    refine ite_f (c := (!decide (((row.map D.int).length : Int) = ((ps.map pairD).length : Nat))) = true) (by simp [e]) ?_
    refine ite_f (c := decide (k < 2) = true) (by simp; omega) ?_
    refine ask14_bad hl ?_
    rw [badR_nil g1]
    refine ⟨show 0 ≤ line by omega, ?_⟩
    refine w1_at rfl ?_
    refine w1_at rfl ?_
    refine w1_at (dNe_nil []) ?_
    refine ite_f (show ¬ (!decide (([] : List Nat) = [])) = true by simp) ?_
    refine ask14_bad2 h ok hn hp e e2 ?_
    have hbad : badV n (nk ps row ps.length) k = [] := List.filter_eq_nil_iff.mpr fun j hj => by
      have : nk ps row ps.length j % k = 0 := by
        rcases g2 j (List.mem_range.mp hj) with z | z
        · rw [z]
          exact Int.zero_emod _
        · exact z.2
      rw [decide_eq_true this]
      exact Bool.false_ne_true
    rw [hbad]
    refine ⟨show 0 ≤ line by omega, ?_⟩
    refine w1_at rfl ?_
    refine w1_at rfl ?_
    refine w1_at (dNe_nil []) ?_
    refine ite_f (show ¬ (!decide (([] : List Nat) = [])) = true by simp) ?_
    exact ask14_end h ok hn hp e e2 g1 g3 g4 fun ρ' => ⟨_, _, rfl, rfl, q⟩
end
end M
set_option linter.all false
set_option Elab.async false
set_option maxRecDepth 10000
set_option maxHeartbeats 4000000
set_option pp.maxSteps 500
/-! K14V: the law of lifted rows on plain data. -/
namespace M
open PySem PySem.Spec PyProof.Rows L2 C8
def lb14 : Ss :=
  (.cons (.asg (.nm 7) (.bin .add (.int 2) (.call "_law_next" (.cons (.var 1) (.cons (.int 11) .nil)))))
  (.cons (.iff (.and (.cons (.cmp .eq (.var 6) (.int 2)) (.cons (.cmp .eq (.call "_law_next" (.cons (.var 1) (.cons (.int 2) .nil))) (.int 0)) .nil)))
   (.cons (.asg (.nm 7) (.bi .int (.cons (.bin .add (.bin .add (.bin .mul (.var 7) (.bin .pow (.int 10) (.int 18))) (.bin .mul (.call "_law_next" (.cons (.var 1) (.cons (.int 1000) .nil))) (.bin .pow (.int 10) (.int 9)))) (.call "_law_next" (.cons (.var 1) (.cons (.int 1000) .nil)))) .nil)))
    .nil)
   .nil)
  (.cons (.asg (.nm 8) (.ife (.cmp .lt (.var 6) (.int 2)) (.call "_law_residue_row" (.cons (.var 1) (.cons (.var 3) (.cons (.var 4) (.cons (.var 7) .nil))))) (.lc (.int 0) (.nm 9) (.ex (.var 4)) .nil [("pair", 9)])))
  (.cons (.iff (.cmp .eq (.var 6) (.int 2))
   (.cons (.asg (.nm 8) (.lc (.bin .mod (.bi .int (.cons (.bin .mul (.var 10) (.bin .add (.bin .fdiv (.var 7) (.int 3)) (.int 1))) .nil)) (.var 7)) (.nm 10) (.ex (.call "_law_some_flow" (.cons (.var 1) (.cons (.var 3) (.cons (.var 4) (.cons (.int 9) .nil)))))) .nil [("amount", 10)]))
    .nil)
   .nil)
  (.cons (.iff (.not (.ex (.call "_law_asked" (.cons (.var 5) (.cons (.var 3) (.cons (.var 4) (.cons (.var 8) (.cons (.var 7) .nil))))))))
   (.cons (.ret (.bl false))
    .nil)
   .nil)
  (.cons (.asg (.nm 11) (.bi .list (.cons (.var 8) .nil)))
  (.cons (.iff (.cmp .gt (.bi .len (.cons (.var 8) .nil)) (.int 0))
   (.cons (.asg (.nm 12) (.lst (.cons (.bin .sub (.call "_law_next" (.cons (.var 1) (.cons (.int 15) .nil))) (.int 2)) (.cons (.var 7) (.cons (.neg (.int 1)) (.cons (.bin .sub (.var 7) (.int 1)) .nil))))))
    (.cons (.set (.var 11) (.call "_law_next" (.cons (.var 1) (.cons (.bi .len (.cons (.var 8) .nil)) .nil))) (.ix (.var 12) (.call "_law_next" (.cons (.var 1) (.cons (.int 4) .nil)))))
    .nil))
   .nil)
  (.cons (.iff (.not (.ex (.call "_law_asked" (.cons (.var 5) (.cons (.var 3) (.cons (.var 4) (.cons (.var 11) (.cons (.var 7) .nil))))))))
   (.cons (.ret (.bl false))
    .nil)
   .nil)
  (.cons (.iff (.or (.cons (.not (.ex (.call "_law_asked" (.cons (.var 5) (.cons (.var 3) (.cons (.var 4) (.cons (.var 11) (.cons (.bin .sub (.int 1) (.var 6)) .nil)))))))) (.cons (.not (.ex (.call "_law_asked" (.cons (.var 5) (.cons (.var 3) (.cons (.var 4) (.cons (.bin .add (.var 8) (.lst (.cons (.int 0) .nil))) (.cons (.int 1) .nil)))))))) .nil)))
   (.cons (.ret (.bl false))
    .nil)
   .nil)
  .nil)))))))))
structure Law14 (Γ : Tb) : Prop where
  mkr : Γ.mke "Graph" = some mkG
  state : Γ.f "_law_state" = some stateF
  next : Γ.f "_law_next" = some nextF
  anyp : Γ.f "_law_any_pairs" = some anyPairsF
  ears : Γ.f "_law_by_ears" = some earsF
  flow : Γ.f "_law_some_flow" = some flowF
  res : Γ.f "_law_residue_row" = some resRowF
  ask : Γ.f "_law_asked" = some ask14F
section
variable {Γ : Tb}
def st14 (ns xs : List Int) (p n : Nat) (ps : List (Int × Int)) (s2 s4 s6 s7 s8 s11 s12 : Sl) : En := [.sh (.scr ns), .ow (stL xs p), s2, .sh (.int n), s4, .sh (graphD n ps), s6, s7, s8, .top, .top, s11, s12]
def Pf (ps : List (Int × Int)) (s : Sl) : Prop := s = .sh (.lst (ps.map pairD)) ∨ s = .ow (ps.map pairD)
theorem l14_c (hf : Law14 Γ) {P : Po} {ns xs row ch : List Int} {p n t : Nat} {k : Int} {ps : List (Int × Int)} {s2 s4 s12 : Sl} (ok : okG n ps) (hn : n ≤ 20) (hps : ps.length ≤ 20) (h4 : Pf ps s4) (ht : t < 3) (hk : 2 ≤ k) (hk2 : big k) (hr : row.length ≤ 20) (hc : ch.length ≤ 20) (i12 : NI s12)
    (nx : P.nx (st14 ns xs p n ps s2 s4 (.sh (.int t)) (.sh (.int k)) (.ow (row.map D.int)) (.ow (ch.map D.int)) s12)) :
    dSs Γ (tlS 7 lb14) (st14 ns xs p n ps s2 s4 (.sh (.int t)) (.sh (.int k)) (.ow (row.map D.int)) (.ow (ch.map D.int)) s12) P := by
  have hb : 1000000 < line := by decide
  have hbt : big (1 - (t : Int)) := by
    unfold big
    have : (1 - (t : Int)).natAbs < 2 ^ 3 := by omega
    exact Nat.lt_trans this (by decide)
  rcases h4 with rfl | rfl
  all_goals
    conv => whnf
    rw [hf.ask]
    refine ⟨List.nodup_nil, fun _ h => (by cases h), n, ps, ch, k, rfl, ok, by omega, by omega, by omega, hk2, ?_⟩
    refine w1_at rfl ?_
    refine w1_at rfl ?_
    refine ite_f Bool.false_ne_true ?_
    conv => whnf
    rw [hf.ask]
    refine ⟨List.nodup_nil, fun _ h => (by cases h), n, ps, ch, 1 - (t : Int), rfl, ok, by omega, by omega, by omega, hbt, ?_⟩
    conv => whnf
    refine ⟨show 1 ≤ line by omega, ?_⟩
    refine ⟨by show (row.map D.int).length + 1 ≤ line; rw [List.length_map]; omega, ?_⟩
    conv => whnf
    rw [hf.ask]
    refine ⟨List.nodup_nil, fun _ h => (by cases h), n, ps, row ++ [0], 1, by rw [List.map_append] <;> rfl, ok, by omega, by omega, by rw [List.length_append]; show row.length + 1 ≤ 200; omega, show (1 : Int).natAbs < 2 ^ 64 by decide, ?_⟩
    exact nx
theorem l14_b (hf : Law14 Γ) {P : Po} {ns xs row : List Int} {p n t : Nat} {k : Int} {ps : List (Int × Int)} {s2 s4 s11 s12 : Sl} (hl0 : 0 < xs.length) (hl : xs.length < line) (hs : small xs) (hp : p + 10 < 1000000) (ok : okG n ps) (hn : n ≤ 20) (hps : ps.length ≤ 20) (h4 : Pf ps s4) (ht : t < 3) (hk : 2 ≤ k) (hk2 : big k) (hr : row.length ≤ 20) (i11 : NI s11) (i12 : NI s12)
    (nx : ∀ p' s8 s11 s12, p' ≤ p + 3 → NI s8 → NI s11 → NI s12 → P.nx (st14 ns xs p' n ps s2 s4 (.sh (.int t)) (.sh (.int k)) s8 s11 s12)) :
    dSs Γ (tlS 4 lb14) (st14 ns xs p n ps s2 s4 (.sh (.int t)) (.sh (.int k)) (.ow (row.map D.int)) s11 s12) P := by
  have hb : 1000000 < line := by decide
  have hb2 : line < 2 ^ 62 := by decide
  have h4' := h4
  rcases h4 with rfl | rfl
  all_goals
    conv => whnf
    rw [hf.ask]
    refine ⟨List.nodup_nil, fun _ h => (by cases h), n, ps, row, k, rfl, ok, by omega, by omega, by omega, hk2, ?_⟩
    refine w1_at rfl ?_
    refine w1_at rfl ?_
    refine ite_f Bool.false_ne_true ?_
    refine ⟨i11, ?_⟩
    by_cases h0 : 0 < row.length
    · refine ite_t (c := decide ((0 : Int) < ((row.map D.int).length : Nat)) = true) (decide_eq_true (by rw [List.length_map]; omega)) ?_
      conv => whnf
      rw [hf.next]
      refine ⟨(show ([1] : List Nat).Nodup by decide), fun i h1 h2 => (by cases h2), xs, p, 15, rfl, by omega, hl0, hl, hs, by omega, fun r hr' => ?_⟩
      conv => whnf
      refine ⟨show 4 ≤ line by omega, i12, ?_⟩
      conv => whnf
      rw [hf.next]
      refine ⟨(show ([1] : List Nat).Nodup by decide), fun i h1 h2 => (by cases h2), xs, p + 1, 4, rfl, by omega, hl0, hl, hs, by omega, fun c hc => ?_⟩
      have hz : ([(r : Int) - 2, k, -1, k - 1].map D.int)[c]? = some (.int ([(r : Int) - 2, k, -1, k - 1].getD c 0)) := by
        rw [List.getElem?_map, List.getElem?_eq_getElem (show c < 4 by omega), List.getD_eq_getElem?_getD, List.getElem?_eq_getElem (show c < 4 by omega)] <;> rfl
      refine w1_at rfl ?_
      refine w1_at rfl ?_
      refine w1_at (lst_at hz) ?_
      generalize ([(r : Int) - 2, k, -1, k - 1].getD c 0) = z
      conv => whnf
      rw [hf.next]
      refine ⟨(show ([1] : List Nat).Nodup by decide), fun i h1 h2 => (by cases h2), xs, p + 1 + 1, row.length, by rw [List.length_map] <;> rfl, by omega, hl0, hl, hs, by omega, fun j hj => ?_⟩
      have hix : L2.ixN (row.map D.int).length ((j : Nat) : Int) = some j := by
        have := ixN_at (m := (row.map D.int).length) (v := ((j : Nat) : Int)) (by omega) (by rw [List.length_map]; omega)
        rw [Int.toNat_natCast] at this
        exact this
      refine w1_at hix ?_
      rw [show (row.map D.int).set j (.int z) = (row.set j z).map D.int from (List.map_set ..).symm]
      exact l14_c hf (ns := ns) (xs := xs) (row := row) (p := p + 1 + 1 + 1) (ch := row.set j z) (s12 := .ow ([(r : Int) - 2, k, -1, k - 1].map D.int)) ok hn hps h4' ht hk hk2 hr (by rw [List.length_set]; exact hr) rfl (nx _ _ _ _ (by omega) rfl rfl rfl)
    · refine ite_f (c := decide ((0 : Int) < ((row.map D.int).length : Nat)) = true) (by rw [decide_eq_true_eq, List.length_map]; omega) ?_
      dsimp only [Po.sq]
      exact l14_c hf ok hn hps h4' ht hk hk2 hr hr i12 (nx p _ _ _ (by omega) rfl rfl i12)
end
end M
set_option linter.all false
set_option Elab.async false
set_option maxRecDepth 10000
set_option maxHeartbeats 4000000
set_option pp.maxSteps 500
/-! K14W: the law of lifted rows on plain data: its turns. -/
namespace M
open PySem PySem.Spec PyProof.Rows L2 C8
section
variable {Γ : Tb}
theorem l14_row (hf : Law14 Γ) {P : Po} {ns xs : List Int} {p n : Nat} {k : Int} {ps : List (Int × Int)} {s2 s4 s8 s11 s12 : Sl} (hl0 : 0 < xs.length) (hl : xs.length < line) (hs : small xs) (hp : p + 300 < 1000000) (ok : okG n ps) (hn : n ≤ 20) (hps : ps.length ≤ 20) (h4 : Pf ps s4) (hk : 2 ≤ k) (hk2 : big k) (i8 : NI s8) (i11 : NI s11) (i12 : NI s12)
    (nx : ∀ p' s4 s8 s11 s12, p' ≤ p + 140 → Pf ps s4 → NI s8 → NI s11 → NI s12 → P.nx (st14 ns xs p' n ps s2 s4 (.sh (.int (2 : Nat))) (.sh (.int k)) s8 s11 s12)) :
    dSs Γ (tlS 2 lb14) (st14 ns xs p n ps s2 s4 (.sh (.int (2 : Nat))) (.sh (.int k)) s8 s11 s12) P := by
  have hb : 1000000 < line := by decide
  have hb2 : line < 2 ^ 62 := by decide
  have lk := big_log hk2
  have mid : dSs Γ (tlS 3 lb14) (st14 ns xs p n ps s2 (.sh (.lst (ps.map pairD))) (.sh (.int (2 : Nat))) (.sh (.int k)) (.ow ((List.replicate ps.length (0 : Int)).map D.int)) s11 s12) P := by
    conv => whnf
    rw [hf.flow]
    refine ⟨(show ([1] : List Nat).Nodup by decide), fun i h1 h2 => (by cases h2), xs, p, n, 9, ps, rfl, hl0, hl, hs, by omega, ok, by omega, by omega, by omega, by omega, fun row p' h1 h2 h3 => ?_⟩
    refine ⟨rfl, fun c acc ρ => acc = ((row.take c).map fun a => a * (k / 3 + 1) % k).map D.int ∧ ρ = st14 ns xs p' n ps s2 (.sh (.lst (ps.map pairD))) (.sh (.int (2 : Nat))) (.sh (.int k)) (.ow ((List.replicate ps.length (0 : Int)).map D.int)) s11 s12, ⟨rfl, rfl⟩, ?_, ?_⟩
    · rintro c acc ρ d hd ⟨rfl, rfl⟩
      rw [List.getElem?_map] at hd
      obtain ⟨a, ha, rfl⟩ := Option.map_eq_some_iff.mp hd
      have hc := (List.getElem?_eq_some_iff.mp ha).1
      have hab := h2 a (List.mem_of_getElem? ha)
      have la : a.natAbs.log2 < 40 := log_lt hab (by decide)
      have lm : (k / 3 + 1).natAbs.log2 < 65 := log_lt (by
        have hk2' : k.natAbs < 2 ^ 64 := hk2
        omega) (by decide)
      refine ⟨rfl, ?_⟩
      refine ⟨⟨by decide, by decide⟩, ?_⟩
      refine ⟨show a.natAbs.log2 + (k / 3 + 1).natAbs.log2 < 1000000 by omega, ?_⟩
      refine ⟨show 0 < k by omega, ?_⟩
      refine ⟨by rw [List.length_map, List.length_map, List.length_take]; omega, ?_, rfl⟩
      rw [List.take_succ_eq_append_getElem hc, (List.getElem?_eq_some_iff.mp ha).2, List.map_append, List.map_append] <;> rfl
    · rintro acc ρ ⟨rfl, rfl⟩
      rw [List.length_map, List.take_length]
      refine ⟨rfl, ?_⟩
      exact l14_b hf (ns := ns) (row := row.map fun a => a * (k / 3 + 1) % k) (t := 2) hl0 hl hs (by omega) ok hn hps (.inl rfl) (by decide) hk hk2 (by rw [List.length_map]; omega) i11 i12 fun p2 s8 s11 s12 hp2 i8 i11 i12 => nx p2 _ s8 s11 s12 (by omega) (.inl rfl) i8 i11 i12
  rcases h4 with rfl | rfl
  all_goals
    refine ⟨rfl, fun c acc ρ => acc = (List.replicate c (0 : Int)).map D.int ∧ ρ = st14 ns xs p n ps s2 (.sh (.lst (ps.map pairD))) (.sh (.int (2 : Nat))) (.sh (.int k)) s8 s11 s12, ⟨rfl, rfl⟩, ?_, ?_⟩
    · rintro c acc ρ d hd ⟨rfl, rfl⟩
      have hc := (List.getElem?_eq_some_iff.mp hd).1
      rw [List.length_map] at hc
      refine ⟨rfl, ?_⟩
      refine ⟨by rw [List.length_map, List.length_replicate]; omega, ?_, rfl⟩
      rw [List.replicate_succ', List.map_append] <;> rfl
    · rintro acc ρ ⟨rfl, rfl⟩
      rw [List.length_map]
      refine ⟨i8, ?_⟩
      exact mid
theorem l14_turn (hf : Law14 Γ) {P : Po} {ns xs : List Int} {p n t : Nat} {ps : List (Int × Int)} {s2 s4 s7 s8 s11 s12 : Sl} (hl0 : 0 < xs.length) (hl : xs.length < line) (hs : small xs) (hp : p + 400 < 1000000) (ok : okG n ps) (hn : n ≤ 20) (hps : ps.length ≤ 20) (h4 : Pf ps s4) (ht : t < 3) (i7 : NI s7) (i8 : NI s8) (i11 : NI s11) (i12 : NI s12)
    (nx : ∀ p' s4 s7 s8 s11 s12, p' ≤ p + 150 → Pf ps s4 → NI s7 → NI s8 → NI s11 → NI s12 → P.nx (st14 ns xs p' n ps s2 s4 (.sh (.int t)) s7 s8 s11 s12)) :
    dSs Γ lb14 (st14 ns xs p n ps s2 s4 (.sh (.int t)) s7 s8 s11 s12) P := by
  have hb : 1000000 < line := by decide
  have hb2 : line < 2 ^ 62 := by decide
  conv => whnf
  rw [hf.next]
  refine ⟨(show ([1] : List Nat).Nodup by decide), fun i h1 h2 => (by cases h2), xs, p, 11, rfl, by omega, hl0, hl, hs, by omega, fun a ha => ?_⟩
  refine ⟨i7, ?_⟩
  have bk : big (2 + (a : Int)) := by
    have : (2 + (a : Int)).natAbs < 2 ^ 5 := by omega
    exact Nat.lt_trans this (by decide)
  by_cases h2 : t = 2
  · subst h2
    conv => whnf
    rw [hf.next]
    refine ⟨(show ([1] : List Nat).Nodup by decide), fun i h1 h2 => (by cases h2), xs, p + 1, 2, rfl, by omega, hl0, hl, hs, by omega, fun r hr => ?_⟩
    by_cases hr0 : (r : Int) = 0
    · refine ite_t (c := decide ((r : Int) = 0) = true) (decide_eq_true hr0) ?_
      refine ⟨⟨by decide, by decide, by decide⟩, ?_⟩
      have l18 : ((10 : Int) ^ (18 : Int).toNat).natAbs.log2 < 60 := by decide +kernel
      have l9 : ((10 : Int) ^ (9 : Int).toNat).natAbs.log2 < 60 := by decide +kernel
      have e18 : ((10 : Int) ^ (18 : Int).toNat) = 1000000000000000000 := by decide +kernel
      have e9 : ((10 : Int) ^ (9 : Int).toNat) = 1000000000 := by decide +kernel
      refine ⟨show (2 + (a : Int)).natAbs.log2 + ((10 : Int) ^ (18 : Int).toNat).natAbs.log2 < 1000000 by have := big_log bk; omega, ?_⟩
      conv => whnf
      rw [hf.next]
      refine ⟨(show ([1] : List Nat).Nodup by decide), fun i h1 h2 => (by cases h2), xs, p + 1 + 1, 1000, rfl, by omega, hl0, hl, hs, by omega, fun b hb' => ?_⟩
      refine ⟨⟨by decide, by decide, by decide⟩, ?_⟩
      have bb : big (b : Int) := by
        have : (b : Int).natAbs < 2 ^ 10 := by omega
        exact Nat.lt_trans this (by decide)
      refine ⟨show (b : Int).natAbs.log2 + ((10 : Int) ^ (9 : Int).toNat).natAbs.log2 < 1000000 by have := big_log bb; omega, ?_⟩
      conv => whnf
      rw [hf.next]
      refine ⟨(show ([1] : List Nat).Nodup by decide), fun i h1 h2 => (by cases h2), xs, p + 1 + 1 + 1, 1000, rfl, by omega, hl0, hl, hs, by omega, fun c hc => ?_⟩
      refine ⟨rfl, ?_⟩
      have kk : 2 ≤ (2 + (a : Int)) * (10 : Int) ^ (18 : Int).toNat + (b : Int) * (10 : Int) ^ (9 : Int).toNat + c ∧ big ((2 + (a : Int)) * (10 : Int) ^ (18 : Int).toNat + (b : Int) * (10 : Int) ^ (9 : Int).toNat + c) := by
        rw [e18, e9]
        refine ⟨by omega, ?_⟩
        show ((2 + (a : Int)) * 1000000000000000000 + (b : Int) * 1000000000 + c).natAbs < 18446744073709551616
        omega
      generalize (2 + (a : Int)) * (10 : Int) ^ (18 : Int).toNat + (b : Int) * (10 : Int) ^ (9 : Int).toNat + c = k at kk
      dsimp only [Po.sq]
      exact l14_row hf (ns := ns) (k := k) hl0 hl hs (by omega) ok hn hps h4 kk.1 kk.2 i8 i11 i12 fun p' s4 s8 s11 s12 hp' h4 i8 i11 i12 => nx p' s4 _ s8 s11 s12 (by omega) h4 rfl i8 i11 i12
    · refine ite_f (c := decide ((r : Int) = 0) = true) (by rw [decide_eq_true_eq]; exact hr0) ?_
      dsimp only [Po.sq]
      exact l14_row hf (ns := ns) (k := 2 + (a : Int)) hl0 hl hs (by omega) ok hn hps h4 (by omega) bk i8 i11 i12 fun p' s4 s8 s11 s12 hp' h4 i8 i11 i12 => nx p' s4 _ s8 s11 s12 (by omega) h4 rfl i8 i11 i12
  · refine ite_f (c := decide ((t : Int) = 2) = true) (by rw [decide_eq_true_eq]; omega) ?_
    have h4' := h4
    rcases h4 with rfl | rfl
    all_goals
      refine ite_t (c := decide ((t : Int) < 2) = true) (by rw [decide_eq_true_eq]; omega) ?_
      conv => whnf
      rw [hf.res]
      refine ⟨(show ([1] : List Nat).Nodup by decide), fun i h1 h2 => (by first | (cases h2; done) | (have a := List.mem_singleton.mp (show i ∈ [1] from h1); have b := List.mem_singleton.mp (show i ∈ [4] from h2); omega)), xs, p + 1, n, 2 + a, ps, by rw [Int.natCast_add] <;> rfl, hl0, hl, hs, by omega, ok, hn, hps, by omega, by omega, fun row p' h1 h2' h3 => ?_⟩
      refine ⟨i8, ?_⟩
      refine ite_f (c := decide ((t : Int) = 2) = true) (by rw [decide_eq_true_eq]; omega) ?_
      dsimp only [Po.sq]
      exact l14_b hf (ns := ns) (k := 2 + (a : Int)) (row := row) hl0 hl hs (by omega) ok hn hps h4' ht (by omega) bk (by omega) i11 i12 fun p2 s8 s11 s12 hp2 i8 i11 i12 => nx p2 _ _ s8 s11 s12 (by omega) h4' rfl i8 i11 i12
end
end M
set_option linter.all false
set_option Elab.async false
set_option maxRecDepth 10000
set_option maxHeartbeats 4000000
set_option pp.maxSteps 500
/-! K14X: the law of lifted rows on plain data, as a whole. -/
namespace M
open PySem PySem.Spec PyProof.Rows L2 C8
section
variable {Γ : Tb}
theorem l14_loop (hf : Law14 Γ) {P : Po} {ns xs : List Int} {p n : Nat} {ps : List (Int × Int)} {s2 s4 : Sl} (ok : okG n ps) (hl0 : 0 < xs.length) (hl : xs.length < line) (hs : small xs) (hp : p + 5000 < 1000000) (hn : n ≤ 20) (hps : ps.length ≤ 20)
    (h4 : Pf ps s4) (hP : ∀ ρ', P.rt (.sh (.bl true)) ρ') :
    dSs Γ (tlS 6 b_law14) (st14 ns xs p n ps s2 s4 .top .top .top .top .top) P := by
  have hb : 1000000 < line := by decide
  have hb2 : line < 2 ^ 62 := by decide
  refine ⟨⟨by decide, by decide⟩, ?_⟩
  refine ⟨fun c ρ => ∃ p' s4 s6 s7 s8 s11 s12, ρ = st14 ns xs p' n ps s2 s4 s6 s7 s8 s11 s12 ∧ p' ≤ p + 150 * c ∧ Pf ps s4 ∧ NI s6 ∧ NI s7 ∧ NI s8 ∧ NI s11 ∧ NI s12, ⟨p, s4, .top, .top, .top, .top, .top, rfl, by omega, h4, rfl, rfl, rfl, rfl, rfl⟩, ?_, ?_⟩
  · rintro c ρ d hd ⟨p', s4, s6, s7, s8, s11, s12, rfl, hp', h4, i6, i7, i8, i11, i12⟩
    obtain ⟨hc, rfl⟩ := getR hd
    have hc : c < 3 := by omega
    rw [Int.zero_add]
    refine ⟨i6, ?_⟩
    exact l14_turn hf (ns := ns) (t := c) hl0 hl hs (by omega) ok hn hps h4 hc i7 i8 i11 i12 fun p2 s4 s7 s8 s11 s12 hp2 h4 i7 i8 i11 i12 => ⟨p2, s4, .sh (.int (c : Int)), s7, s8, s11, s12, rfl, by omega, h4, rfl, i7, i8, i11, i12⟩
  · rintro ρ ⟨p', s4, s6, s7, s8, s11, s12, rfl, hp', h4, i6, i7, i8, i11, i12⟩
    rcases h4 with rfl | rfl
    all_goals
      conv => whnf
      refine ⟨rfl, fun c acc ρ => acc = (List.replicate c (2 : Int)).map D.int ∧ ρ = st14 ns xs p' n ps s2 (.sh (.lst (ps.map pairD))) s6 s7 s8 s11 s12, ⟨rfl, rfl⟩, ?_, ?_⟩
      · rintro c acc ρ d hd ⟨rfl, rfl⟩
        have hc := (List.getElem?_eq_some_iff.mp hd).1
        rw [List.length_map] at hc
        refine ⟨rfl, ?_⟩
        refine ⟨by rw [List.length_map, List.length_replicate]; omega, ?_, rfl⟩
        rw [List.replicate_succ', List.map_append] <;> rfl
      · rintro acc ρ ⟨rfl, rfl⟩
        rw [List.length_map]
        conv => whnf
        rw [hf.ask]
        refine ⟨List.nodup_nil, fun _ h => (by cases h), n, ps, List.replicate ps.length 2, 5, rfl, ok, by omega, by omega, by rw [List.length_replicate]; omega, show (5 : Int).natAbs < 2 ^ 64 by decide, ?_⟩
        exact hP _
theorem l14_graph (hf : Law14 Γ) {P : Po} {ns xs : List Int} {p n : Nat} {ps : List (Int × Int)} {s2 s4 : Sl} (ok : okG n ps) (hl0 : 0 < xs.length) (hl : xs.length < line) (hs : small xs) (hp : p + 5000 < 1000000) (hn : n ≤ 20) (hps : ps.length ≤ 20)
    (h4 : Pf ps s4) (hP : ∀ ρ', P.rt (.sh (.bl true)) ρ') {nn : Int} (hnn : nn = (n : Int)) :
    dSs Γ (tlS 5 b_law14) [.sh (.scr ns), .ow (stL xs p), s2, .sh (.int nn), s4, .top, .top, .top, .top, .top, .top, .top, .top] P := by
  subst hnn
  have hb : 1000000 < line := by decide
  rcases h4 with rfl | rfl
  all_goals
    conv => whnf
    rw [hf.mkr]
    refine ⟨List.nodup_nil, fun _ h => (by cases h), n, ps, rfl, ok, by omega, by omega, ?_⟩
    refine ⟨rfl, ?_⟩
    exact l14_loop hf ok hl0 hl hs hp hn hps (by first | exact .inl rfl | exact .inr rfl) hP
theorem p_law14 (hf : Law14 Γ) : ∀ ds Q X, lawF.sp ds Q X → dDef Γ [.sh] 12 b_law14 ds Q X := by
  rintro ds Q X ⟨ns, rfl, hns, q⟩
  have hb : 1000000 < line := by decide
  have hb2 : line < 2 ^ 62 := by decide
  conv => whnf
  rw [hf.state]
  refine ⟨List.nodup_nil, fun _ h => (by cases h), ns, 0, 14, rfl, by omega, fun xs hx hs => ?_⟩
  have hl0 : 0 < xs.length := by omega
  have hl : xs.length < line := by omega
  refine ⟨rfl, ?_⟩
  conv => whnf
  rw [hf.ears]
  refine ⟨(show ([1] : List Nat).Nodup by decide), fun i h1 h2 => (by cases h2), xs, 0, 6, rfl, hl0, hl, hs, by omega, by omega, fun n ps p1 n0 hn hps ok hp1 => ?_⟩
  refine ⟨rfl, rfl, rfl, ?_⟩
  conv => whnf
  rw [hf.next]
  refine ⟨(show ([1] : List Nat).Nodup by decide), fun i h1 h2 => (by cases h2), xs, p1, 3, rfl, by omega, hl0, hl, hs, by omega, fun r hr => ?_⟩
  by_cases h0 : (r : Int) = 0
  · refine ite_t (decide_eq_true h0) ?_
    conv => whnf
    rw [hf.next]
    refine ⟨(show ([1] : List Nat).Nodup by decide), fun i h1 h2 => (by cases h2), xs, p1 + 1, 8, rfl, by omega, hl0, hl, hs, by omega, fun a ha => ?_⟩
    refine ⟨rfl, ?_⟩
    conv => whnf
    rw [hf.anyp]
    refine ⟨(show ([1] : List Nat).Nodup by decide), fun i h1 h2 => (by cases h2), xs, p1 + 1 + 1, 1 + a, 14, by rw [Int.natCast_add]; rfl, hl0, hl, hs, by omega, by omega, fun qs p2 hp2 hqs okq => ?_⟩
    refine ⟨rfl, ?_⟩
    refine l14_graph hf (n := 1 + a) (ps := qs) okq hl0 hl hs (by omega) (by omega) (by omega) (.inr rfl) (fun ρ' => ?_) (by omega)
    exact ⟨_, _, rfl, rfl, q⟩
  · refine ite_f (by simpa using h0) ?_
    refine l14_graph hf ok hl0 hl hs (by omega) (by omega) (by omega) (.inl rfl) (fun ρ' => ?_) rfl
    exact ⟨_, _, rfl, rfl, q⟩
end
end M
set_option Elab.async false
set_option linter.all false
/-! the head's facts, printed by head2.py -/
namespace Hd
open PySem PySem.Spec PyProof.Rows L2 M
def top (i : Nat) : Stmt := PySem.Challenge.pw_nowherezero_k14_lifted_rows.main.body.getD i (.Pass ⟨0, 0, 0, 0⟩)
def mth (i j : Nat) : Stmt := match top i with
  | .ClassDef (body := b) .. => b.getD j (.Pass ⟨0, 0, 0, 0⟩)
  | _ => .Pass ⟨0, 0, 0, 0⟩
def x_BadRow : DefX := ⟨"BadRow", "__init__", "BadRow.__init__", defArgs (mth 6 0), defBody (mth 6 0), defScope (mth 6 0)⟩
def x_BadAmount : DefX := ⟨"BadAmount", "__init__", "BadAmount.__init__", defArgs (mth 7 0), defBody (mth 7 0), defScope (mth 7 0)⟩
def x_Unbalanced : DefX := ⟨"Unbalanced", "__init__", "Unbalanced.__init__", defArgs (mth 8 0), defBody (mth 8 0), defScope (mth 8 0)⟩
def x_BadModulus : DefX := ⟨"BadModulus", "__init__", "BadModulus.__init__", defArgs (mth 9 0), defBody (mth 9 0), defScope (mth 9 0)⟩
def d_Graph_init : He.DefD := ⟨("Graph", some "__init__"), "__init__", "Graph.__init__", defArgs (mth 11 0), defBody (mth 11 0), defScope (mth 11 0), [], []⟩
def d_Graph_vertices : He.DefD := ⟨("Graph", some "vertices"), "vertices", "Graph.vertices", defArgs (mth 11 1), defBody (mth 11 1), defScope (mth 11 1), [], []⟩
def d_Graph_edges : He.DefD := ⟨("Graph", some "edges"), "edges", "Graph.edges", defArgs (mth 11 2), defBody (mth 11 2), defScope (mth 11 2), [], []⟩
def d_Graph_len : He.DefD := ⟨("Graph", some "__len__"), "__len__", "Graph.__len__", defArgs (mth 11 3), defBody (mth 11 3), defScope (mth 11 3), [], []⟩
def d_Graph_iter : He.DefD := ⟨("Graph", some "__iter__"), "__iter__", "Graph.__iter__", defArgs (mth 11 4), defBody (mth 11 4), defScope (mth 11 4), [], []⟩
def d_Graph_eq : He.DefD := ⟨("Graph", some "__eq__"), "__eq__", "Graph.__eq__", defArgs (mth 11 5), defBody (mth 11 5), defScope (mth 11 5), [], []⟩
def d_Graph_ends : He.DefD := ⟨("Graph", some "ends"), "ends", "Graph.ends", defArgs (mth 11 6), defBody (mth 11 6), defScope (mth 11 6), [], []⟩
def d_Graph_edges_at : He.DefD := ⟨("Graph", some "edges_at"), "edges_at", "Graph.edges_at", defArgs (mth 11 7), defBody (mth 11 7), defScope (mth 11 7), [], []⟩
def d_check_row : He.DefD := ⟨("check_row", none), "check_row", "check_row", defArgs (top 12), defBody (top 12), defScope (top 12), [], []⟩
def d_step_ends : He.DefD := ⟨("step_ends", none), "step_ends", "step_ends", defArgs (top 14), defBody (top 14), defScope (top 14), [], []⟩
def d_steps_from : He.DefD := ⟨("steps_from", none), "steps_from", "steps_from", defArgs (top 15), defBody (top 15), defScope (top 15), [], []⟩
def d_find_steps : He.DefD := ⟨("find_steps", none), "find_steps", "find_steps", defArgs (top 16), defBody (top 16), defScope (top 16), [], []⟩
def d_back : He.DefD := ⟨("_back", none), "_back", "_back", defArgs (top 17), defBody (top 17), defScope (top 17), [], []⟩
def d_imbalances : He.DefD := ⟨("imbalances", none), "imbalances", "imbalances", defArgs (top 19), defBody (top 19), defScope (top 19), [], []⟩
def d_refuse_unbalanced : He.DefD := ⟨("refuse_unbalanced", none), "refuse_unbalanced", "refuse_unbalanced", defArgs (top 20), defBody (top 20), defScope (top 20), [], []⟩
def d_lift : He.DefD := ⟨("lift", none), "lift", "lift", defArgs (top 22), defBody (top 22), defScope (top 22), [], []⟩
def d_changes : He.DefD := ⟨("changes", none), "changes", "changes", defArgs (top 23), defBody (top 23), defScope (top 23), [], []⟩
def d_law_cell : He.DefD := ⟨("_law_cell", none), "_law_cell", "_law_cell", defArgs (top 25), defBody (top 25), defScope (top 25), [], []⟩
def d_law_numbers : He.DefD := ⟨("_law_numbers", none), "_law_numbers", "_law_numbers", defArgs (top 26), defBody (top 26), defScope (top 26), [], []⟩
def d_law_state : He.DefD := ⟨("_law_state", none), "_law_state", "_law_state", defArgs (top 27), defBody (top 27), defScope (top 27), [], []⟩
def d_law_next : He.DefD := ⟨("_law_next", none), "_law_next", "_law_next", defArgs (top 28), defBody (top 28), defScope (top 28), [], []⟩
def d_law_any_pairs : He.DefD := ⟨("_law_any_pairs", none), "_law_any_pairs", "_law_any_pairs", defArgs (top 29), defBody (top 29), defScope (top 29), [], []⟩
def d_law_shuffled : He.DefD := ⟨("_law_shuffled", none), "_law_shuffled", "_law_shuffled", defArgs (top 30), defBody (top 30), defScope (top 30), [], []⟩
def d_law_by_ears : He.DefD := ⟨("_law_by_ears", none), "_law_by_ears", "_law_by_ears", defArgs (top 31), defBody (top 31), defScope (top 31), [], []⟩
def d_law_rests : He.DefD := ⟨("_law_rests", none), "_law_rests", "_law_rests", defArgs (top 32), defBody (top 32), defScope (top 32), [], []⟩
def d_law_some_flow : He.DefD := ⟨("_law_some_flow", none), "_law_some_flow", "_law_some_flow", defArgs (top 33), defBody (top 33), defScope (top 33), [], []⟩
def d_law_residue_row : He.DefD := ⟨("_law_residue_row", none), "_law_residue_row", "_law_residue_row", defArgs (top 34), defBody (top 34), defScope (top 34), [], []⟩
def d_law_told : He.DefD := ⟨("_law_told", none), "_law_told", "_law_told", defArgs (top 35), defBody (top 35), defScope (top 35), [], []⟩
def d_law_asked : He.DefD := ⟨("_law_asked", none), "_law_asked", "_law_asked", defArgs (top 36), defBody (top 36), defScope (top 36), [], []⟩
def d_law : He.DefD := ⟨("law", none), "law", "law", defArgs (top 37), defBody (top 37), defScope (top 37), [], []⟩
def xis : List (Str × Str × Bool) := [("BadRow", "FlowError", true), ("BadModulus", "FlowError", true), ("BadAmount", "FlowError", true), ("Unbalanced", "FlowError", true), ("BadRow", "BadRow", true), ("BadModulus", "BadRow", false), ("BadModulus", "BadModulus", true), ("BadAmount", "BadRow", false), ("BadAmount", "BadModulus", false), ("BadAmount", "BadAmount", true), ("Unbalanced", "BadRow", false), ("Unbalanced", "BadModulus", false), ("Unbalanced", "BadAmount", false), ("Unbalanced", "Unbalanced", true), ("FlowError", "FlowError", true)]
def xfs : List (Str × Str) := [("BadRow", "length"), ("BadModulus", "modulus"), ("BadAmount", "edge"), ("Unbalanced", "vertex")]
def oxs : List Str := ["BadRow", "BadModulus", "BadAmount", "Unbalanced"]
def xd : List DefX := [x_BadRow, x_BadAmount, x_Unbalanced, x_BadModulus]
def fn : List He.DefD := [d_Graph_init, d_Graph_len, d_Graph_iter, d_Graph_eq, d_Graph_ends, d_Graph_edges_at, d_check_row, d_step_ends, d_steps_from, d_find_steps, d_back, d_imbalances, d_refuse_unbalanced, d_lift, d_changes, d_law_cell, d_law_numbers, d_law_state, d_law_next, d_law_any_pairs, d_law_shuffled, d_law_by_ears, d_law_rests, d_law_some_flow, d_law_residue_row, d_law_told, d_law_asked, d_law]
def fa0 : List He.Fa := [.glo "Graph", .cls "Graph", .mkr "Graph", .noat "Graph" "_many", .noat "Graph" "_pairs", .noat "Graph" "_at", .meth "Graph" "__init__", .meth "Graph" "__len__", .meth "Graph" "__iter__", .meth "Graph" "__eq__", .meth "Graph" "ends", .meth "Graph" "edges_at", .glo "check_row", .glo "step_ends", .glo "steps_from", .glo "find_steps", .glo "_back", .glo "imbalances", .glo "refuse_unbalanced", .glo "lift", .glo "changes", .glo "_law_cell", .glo "_law_numbers", .glo "_law_state", .glo "_law_next", .glo "_law_any_pairs", .glo "_law_shuffled", .glo "_law_by_ears", .glo "_law_rests", .glo "_law_some_flow", .glo "_law_residue_row", .glo "_law_told", .glo "_law_asked", .glo "law", .free "len", .free "abs", .free "int", .free "list", .free "tuple", .free "repr", .free "sorted", .free "set", .free "min", .free "max", .free "sum", .free "range", .free "enumerate", .free "zip", .free "isinstance", .free "iter", .free "super"]
def fa : List He.Fa := fa0 ++ (xis.map (fun z => .glo z.2.1) ++ oxs.map .glo)
def fb : List Fb := [.isc "Graph", .kit "Graph" "Graph" true, .prop "Graph" "vertices", .prop "Graph" "edges"]
def pr : List (Str × Str × He.DefD) := [("Graph", "vertices", d_Graph_vertices), ("Graph", "edges", d_Graph_edges)]
def fx : List Fx := fxOf xis xfs oxs
def loose : List Str := ["__name__", "_wall", "FlowError", "BadGraph", "UnknownVertex", "UnknownEdge", "BadRow", "BadAmount", "Unbalanced", "BadModulus", "Graph", "check_row", "step_ends", "steps_from", "find_steps", "_back", "imbalances", "refuse_unbalanced", "lift", "changes", "_law_cell", "_law_numbers", "_law_state", "_law_next", "_law_any_pairs", "_law_shuffled", "_law_by_ears", "_law_rests", "_law_some_flow", "_law_residue_row", "_law_told", "_law_asked"]
abbrev R : PySem.W.OpenRow := PySem.W.OpenLaw.row PySem.Challenge.rw_nowherezero_k14_lifted_rows
abbrev hk : PySem.W.Hook := hookX 6 R.prog.main.file fa fn fb pr fx xd
def ob (s : PySem.W.SharedT) : AlX := obsXG 6 R.prog.main.file fa fn fb pr fx xd (HandSHeadRun.getT s)
theorem ob_eq (s : PySem.W.SharedT) : ob s = hk.obs s.abs := obsXG_eq (HandSHeadRun.getT_eq s)
set_option maxRecDepth 100000 in
set_option maxHeartbeats 0 in
theorem run (w : World) : HandSHeadRun.RunEq R (PySem.W.view R.prog [37]) hk ob 6000 loose w := by
  intro os
  kernel_rfl
end Hd
set_option linter.all false
set_option Elab.async false
set_option maxRecDepth 100000
set_option maxHeartbeats 0
/-! the defs together, printed by lnk2.py -/
namespace Lk
open PySem PySem.Spec PyProof.Rows L2 M C8 Hd
def fld (c f : Str) : Bool := decide (c = "Graph") && (decide (f = "_many") || (decide (f = "_pairs") || decide (f = "_at")))
def clG (K : PySem.W.Frag) (c : Str) (C : Addr) : Prop := c = "Graph" ∧ C = He.ga K "Graph"
abbrev G0 : Tb := (tb0 fld).setX (isxOf xis) (xflOf xfs)
abbrev G1 : Tb := G0.addE x_BadRow.cls (fxOne "length")
abbrev G2 : Tb := G1.addE x_BadModulus.cls (fxOne "modulus")
abbrev G3 : Tb := G2.addE x_BadAmount.cls (fxOne "edge")
abbrev G4 : Tb := G3.addE x_Unbalanced.cls (fxOne "vertex")
abbrev G5 : Tb := G4.addC "Graph" mkG
abbrev G6 : Tb := G5.addI "Graph" "_pairs"
abbrev G7 : Tb := G6.addP "Graph" "vertices" verticesF
abbrev G8 : Tb := G7.addM "Graph" "ends" endsF
abbrev G9 : Tb := G8.addM "Graph" "edges_at" edgesAtF
abbrev G10 : Tb := G9.addF "check_row" checkRX
abbrev G11 : Tb := G10.addF "step_ends" stepEndsF
abbrev G12 : Tb := G11.addF "steps_from" stepsF
abbrev G13 : Tb := G12.addF "_back" backF
abbrev G14 : Tb := G13.addF "find_steps" findF
abbrev G15 : Tb := G14.addF "imbalances" imbsF
abbrev G16 : Tb := G15.addF "refuse_unbalanced" refuseX
abbrev G17 : Tb := G16.addF "changes" changesF
abbrev G18 : Tb := G17.addK "lift" ["modulus"] liftX
abbrev G19 : Tb := G18.addF "_law_cell" cellF
abbrev G20 : Tb := G19.addF "_law_numbers" numbersF
abbrev G21 : Tb := G20.addF "_law_state" stateF
abbrev G22 : Tb := G21.addF "_law_next" nextF
abbrev G23 : Tb := G22.addF "_law_any_pairs" anyPairsF
abbrev G24 : Tb := G23.addF "_law_shuffled" shufF
abbrev G25 : Tb := G24.addF "_law_by_ears" earsF
abbrev G26 : Tb := G25.addF "_law_rests" restsF
abbrev G27 : Tb := G26.addF "_law_some_flow" flowF
abbrev G28 : Tb := G27.addF "_law_residue_row" resRowF
abbrev G29 : Tb := G28.addF "_law_told" told14F
abbrev G30 : Tb := G29.addF "_law_asked" ask14F
variable {w : World} {K : PySem.W.Frag} {mg : Str → Option Value} {base : Heap} {h : Heap}
abbrev P : Program := R.prog
abbrev St0 (w : World) (K : PySem.W.Frag) (mg : Str → Option Value) (base : Heap) (G : Tb) (g : Bool) (k : Nat) : Prop := Sta P w K mg base G (clG K) g k
abbrev Sy (K : PySem.W.Frag) : Prop := SaysX P.main.file fa Hd.fn fb pr (fxOf xis Hd.xfs oxs) xd K
theorem fa1 {z : He.Fa} (h : z ∈ fa0) : z ∈ fa := List.mem_append_left _ h
theorem fag {z : Str × Str × Bool} (h : z ∈ xis) : He.Fa.glo z.2.1 ∈ fa := List.mem_append_right _ (List.mem_append_left _ (List.mem_map.mpr ⟨z, h, rfl⟩))
theorem fao {x : Str} (h : x ∈ oxs) : He.Fa.glo x ∈ fa := List.mem_append_right _ (List.mem_append_right _ (List.mem_map.mpr ⟨x, h, rfl⟩))
theorem free (X : K.In h) (G : h.Ns mainGlobals mg) (c : Sy K) : ∀ x ∈ bnames, mg x = none := by
  intro x hx
  have e : (He.Fa.free x) ∈ fa := fa1 (by
    simp only [bnames, List.mem_cons, List.not_mem_nil, or_false] at hx
    rcases hx with rfl | rfl | rfl | rfl | rfl | rfl | rfl | rfl | rfl | rfl | rfl | rfl | rfl | rfl | rfl | rfl <;> simp [fa0])
  exact He.free_ok X G (c.m.fact e)
theorem freeS (X : K.In h) (G : h.Ns mainGlobals mg) (c : Sy K) : mg "super" = none := He.free_ok X G (x := "super") (c.m.fact (fa1 (by simp [fa0])))
theorem clsG (c : Sy K) : ∀ x C, clG K x C → Cls K C := by
  rintro x C ⟨rfl, rfl⟩
  exact He.cls_ok (x := "Graph") (c.m.fact (fa1 (by simp [fa0])))
theorem naG (c : Sy K) : ∀ x C f, clG K x C → fld x f = true → NoAttr K C f := by
  rintro x C f ⟨rfl, rfl⟩ e
  simp only [fld, Bool.and_eq_true, Bool.or_eq_true, decide_eq_true_eq] at e
  rcases e.2 with rfl | rfl | rfl
  · exact He.noat_ok (x := "Graph") (c.m.fact (fa1 (by simp [fa0])))
  · exact He.noat_ok (x := "Graph") (c.m.fact (fa1 (by simp [fa0])))
  · exact He.noat_ok (x := "Graph") (c.m.fact (fa1 (by simp [fa0])))
theorem iscG (c : Sy K) : ∀ x C, clG K x C → IsC K C := by
  rintro x C ⟨rfl, rfl⟩
  exact isc_ok (x := "Graph") (c.m.b (by simp [fb]))
theorem unG : ∀ x C C', clG K x C → clG K x C' → C = C' := by
  rintro x C C' ⟨_, rfl⟩ ⟨_, rfl⟩
  rfl
theorem s0 (X : K.In h) (G : h.Ns mainGlobals mg) (c : Sy K) : St0 w K mg base G0 false 0 := Sta.setXs (sta0 (free X G c) (clsG c) (naG c) (iscG c) unG) X G c fun z hz => fag hz
theorem sN (X : K.In h) (G : h.Ns mainGlobals mg) (c : Sy K) : St0 w K mg base tbN false 0 := sta0 (free X G c) (clsG c) (fun _ _ _ _ e => by cases e) (iscG c) unG
theorem s1 (X : K.In h) (G : h.Ns mainGlobals mg) (c : Sy K) : St0 w K mg base G1 false 1 :=
  Sta.addX (k := 0) (d := x_BadRow) (fld := "length") (N := ["self", "length"]) (ps := ["self", "length"]) ((s0 X G c).mono (by omega)) X G c (by simp [xd]) (by decide +kernel) (fao (by decide +kernel)) (by decide +kernel) (freeS X G c) (by decide +kernel) (by decide +kernel) rfl (by decide +kernel) (by decide +kernel) fun _ _ _ _ _ _ _ us hl => match us, hl with | [_, _], _ => rfl
theorem s2 (X : K.In h) (G : h.Ns mainGlobals mg) (c : Sy K) : St0 w K mg base G2 false 1 :=
  Sta.addX (k := 0) (d := x_BadModulus) (fld := "modulus") (N := ["self", "modulus"]) (ps := ["self", "modulus"]) (s1 X G c) X G c (by simp [xd]) (by decide +kernel) (fao (by decide +kernel)) (by decide +kernel) (freeS X G c) (by decide +kernel) (by decide +kernel) rfl (by decide +kernel) (by decide +kernel) fun _ _ _ _ _ _ _ us hl => match us, hl with | [_, _], _ => rfl
theorem s3 (X : K.In h) (G : h.Ns mainGlobals mg) (c : Sy K) : St0 w K mg base G3 false 1 :=
  Sta.addX (k := 0) (d := x_BadAmount) (fld := "edge") (N := ["self", "edge"]) (ps := ["self", "edge"]) (s2 X G c) X G c (by simp [xd]) (by decide +kernel) (fao (by decide +kernel)) (by decide +kernel) (freeS X G c) (by decide +kernel) (by decide +kernel) rfl (by decide +kernel) (by decide +kernel) fun _ _ _ _ _ _ _ us hl => match us, hl with | [_, _], _ => rfl
theorem s4 (X : K.In h) (G : h.Ns mainGlobals mg) (c : Sy K) : St0 w K mg base G4 false 1 :=
  Sta.addX (k := 0) (d := x_Unbalanced) (fld := "vertex") (N := ["self", "vertex"]) (ps := ["self", "vertex"]) (s3 X G c) X G c (by simp [xd]) (by decide +kernel) (fao (by decide +kernel)) (by decide +kernel) (freeS X G c) (by decide +kernel) (by decide +kernel) rfl (by decide +kernel) (by decide +kernel) fun _ _ _ _ _ _ _ us hl => match us, hl with | [_, _], _ => rfl
theorem s5 (X : K.In h) (G : h.Ns mainGlobals mg) (c : Sy K) : St0 w K mg base G5 false 3 := by
  obtain ⟨fd, F⟩ := c.m.df (d := d_Graph_init) (by simp [Hd.fn])
  have b : Binds K fd ["self", "vertices", "edges"] [] := FunD.bindsN F fun _ _ _ _ _ _ us hl => match us, hl with | [_, _, _], _ => rfl
  exact (s4 X G c).mono (by omega) |>.addC (C := He.ga K "Graph") ⟨rfl, rfl⟩ (He.glo_ok X G (x := "Graph") (c.m.fact (fa1 (by simp [fa0])))) (He.mkr_ok (x := "Graph") (c.m.fact (fa1 (by simp [fa0])))) b
    (graph_init F (by decide +kernel) (sN X G c) (by
      rintro C ⟨_, rfl⟩
      exact ⟨clsG c _ _ ⟨rfl, rfl⟩, naG c "Graph" _ _ ⟨rfl, rfl⟩ rfl, naG c "Graph" _ _ ⟨rfl, rfl⟩ rfl, naG c "Graph" _ _ ⟨rfl, rfl⟩ rfl⟩) (by decide +kernel))
    fun vs H Q E z x dx => graph_mk vs H Q E z _ x dx ⟨rfl, rfl⟩
theorem s6 (X : K.In h) (G : h.Ns mainGlobals mg) (c : Sy K) : St0 w K mg base G6 false 3 := by
  obtain ⟨fdi, Fi⟩ := c.m.df (d := d_Graph_iter) (by simp [Hd.fn])
  obtain ⟨fdl, Fl⟩ := c.m.df (d := d_Graph_len) (by simp [Hd.fn])
  have bi : Binds K fdi ["self"] [] := FunD.bindsN Fi fun _ _ _ _ _ _ us hl => match us, hl with | [_], _ => rfl
  have bl : Binds K fdl ["self"] [] := FunD.bindsN Fl fun _ _ _ _ _ _ us hl => match us, hl with | [_], _ => rfl
  refine (s5 X G c).addI (c := "Graph") (f := "_pairs") (fun C hc => naG c "Graph" C _ hc rfl) ?_ ?_ bi bl (own_iter Fi (by decide +kernel) (sN X G c) (by decide +kernel)) (own_len Fl (by decide +kernel) (sN X G c) (by decide +kernel))
  · rintro C ⟨_, rfl⟩
    exact He.meth_ok (x := "Graph") (m := "__iter__") (c.m.fact (fa1 (by simp [fa0])))
  · rintro C ⟨_, rfl⟩
    exact He.meth_ok (x := "Graph") (m := "__len__") (c.m.fact (fa1 (by simp [fa0])))
theorem s7 (X : K.In h) (G : h.Ns mainGlobals mg) (c : Sy K) : St0 w K mg base G7 false 6 := by
  obtain ⟨fd, F⟩ := c.m.p (x := "Graph") (f := "vertices") (d := d_Graph_vertices) (by simp [pr])
  have b : Binds K fd ["self"] [] := FunD.bindsN F fun _ _ _ _ _ _ us hl => match us, hl with | [_], _ => rfl
  have S : St0 w K mg base G6 false 3 := (s6 X G c)
  have g := fnG_of (N := ["self"]) (ps := ["self"]) (fn := verticesF) (n := 0) (b := b_Graph_vertices) F (by decide +kernel) S rfl rfl (by decide +kernel) (p_vertices ⟨rfl, rfl, rfl⟩)
  refine (S.mono (by omega)).addP (p := He.ma K (He.ga K "Graph") "vertices") ?_ b g.ok
  rintro C ⟨_, rfl⟩
  exact prop_ok (x := "Graph") (f := "vertices") (c.m.b (by simp [fb]))
theorem s8 (X : K.In h) (G : h.Ns mainGlobals mg) (c : Sy K) : St0 w K mg base G8 false 9 := by
  obtain ⟨fd, F⟩ := c.m.df (d := d_Graph_ends) (by simp [Hd.fn])
  have b : Binds K fd ["self", "edge"] [] := FunD.bindsN F fun _ _ _ _ _ _ us hl => match us, hl with | [_, _], _ => rfl
  have S : St0 w K mg base G7 false 6 := (s7 X G c)
  have g := fnG_of (N := ["self", "edge"]) (ps := ["self", "edge"]) (fn := endsF) (n := 0) (b := b_Graph_ends) F (by decide +kernel) S rfl rfl (by decide +kernel) (p_ends ⟨rfl, rfl, rfl⟩)
  refine (S.mono (by omega)).addM ?_ b g
  rintro C ⟨_, rfl⟩
  exact He.meth_ok (x := "Graph") (m := "ends") (c.m.fact (fa1 (by simp [fa0])))
theorem s9 (X : K.In h) (G : h.Ns mainGlobals mg) (c : Sy K) : St0 w K mg base G9 false 12 := by
  obtain ⟨fd, F⟩ := c.m.df (d := d_Graph_edges_at) (by simp [Hd.fn])
  have b : Binds K fd ["self", "vertex"] [] := FunD.bindsN F fun _ _ _ _ _ _ us hl => match us, hl with | [_, _], _ => rfl
  have S : St0 w K mg base G8 false 9 := (s8 X G c)
  have g := fnG_of (N := ["self", "vertex"]) (ps := ["self", "vertex"]) (fn := edgesAtF) (n := 0) (b := b_Graph_edges_at) F (by decide +kernel) S rfl rfl (by decide +kernel) (p_edges_at ⟨rfl, rfl, rfl⟩)
  refine (S.mono (by omega)).addM ?_ b g
  rintro C ⟨_, rfl⟩
  exact He.meth_ok (x := "Graph") (m := "edges_at") (c.m.fact (fa1 (by simp [fa0])))
theorem s10 (X : K.In h) (G : h.Ns mainGlobals mg) (c : Sy K) : St0 w K mg base G10 false 15 := by
  obtain ⟨fd, F⟩ := c.m.df (d := d_check_row) (by simp [Hd.fn])
  have b : Binds K fd ["graph", "row"] [] := FunD.bindsN F fun _ _ _ _ _ _ us hl => match us, hl with | [_, _], _ => rfl
  have S : St0 w K mg base G9 false 12 := (s9 X G c)
  have g := fnG_of (N := ["graph", "row"]) (ps := ["graph", "row"]) (fn := checkRX) (n := 0) (b := b_check_row) F (by decide +kernel) S rfl rfl (by decide +kernel) (p_check_row ⟨⟨rfl, rfl, rfl⟩, rfl⟩ ⟨fxOne "length", rfl, fun i h => fxOne_at (decide_eq_true h)⟩)
  exact (S.mono (by omega)).addF (He.glo_ok X G (x := "check_row") (c.m.fact (fa1 (by simp [fa0])))) F.kp b g
theorem s11 (X : K.In h) (G : h.Ns mainGlobals mg) (c : Sy K) : St0 w K mg base G11 false 18 := by
  obtain ⟨fd, F⟩ := c.m.df (d := d_step_ends) (by simp [Hd.fn])
  have b : Binds K fd ["graph", "step"] [] := FunD.bindsN F fun _ _ _ _ _ _ us hl => match us, hl with | [_, _], _ => rfl
  have S : St0 w K mg base G10 false 15 := (s10 X G c)
  have g := fnG_of (N := ["graph", "step", "edge", "sign", "tail", "head"]) (ps := ["graph", "step"]) (fn := stepEndsF) (n := 4) (b := b_step_ends) F (by decide +kernel) S rfl rfl (by decide +kernel) (p_step_ends rfl)
  exact (S.mono (by omega)).addF (He.glo_ok X G (x := "step_ends") (c.m.fact (fa1 (by simp [fa0])))) F.kp b g
theorem s12 (X : K.In h) (G : h.Ns mainGlobals mg) (c : Sy K) : St0 w K mg base G12 false 21 := by
  obtain ⟨fd, F⟩ := c.m.df (d := d_steps_from) (by simp [Hd.fn])
  have b : Binds K fd ["graph", "here", "signs"] [] := FunD.bindsN F fun _ _ _ _ _ _ us hl => match us, hl with | [_, _, _], _ => rfl
  have S : St0 w K mg base G11 false 18 := (s11 X G c)
  have g := fnG_of (N := ["graph", "here", "signs", "found", "edge", "sign", "first", "last"]) (ps := ["graph", "here", "signs"]) (fn := stepsF) (n := 5) (b := b_steps_from) F (by decide +kernel) S rfl rfl (by decide +kernel) (p_steps rfl rfl)
  exact (S.mono (by omega)).addF (He.glo_ok X G (x := "steps_from") (c.m.fact (fa1 (by simp [fa0])))) F.kp b g
theorem s13 (X : K.In h) (G : h.Ns mainGlobals mg) (c : Sy K) : St0 w K mg base G13 false 24 := by
  obtain ⟨fd, F⟩ := c.m.df (d := d_back) (by simp [Hd.fn])
  have b : Binds K fd ["came", "last"] [] := FunD.bindsN F fun _ _ _ _ _ _ us hl => match us, hl with | [_, _], _ => rfl
  have S : St0 w K mg base G12 false 21 := (s12 X G c)
  have g := fnG_of (N := ["came", "last", "steps", "step"]) (ps := ["came", "last"]) (fn := backF) (n := 2) (b := b_back) F (by decide +kernel) S rfl rfl (by decide +kernel) p_back
  exact (S.mono (by omega)).addF (He.glo_ok X G (x := "_back") (c.m.fact (fa1 (by simp [fa0])))) F.kp b g
theorem s14 (X : K.In h) (G : h.Ns mainGlobals mg) (c : Sy K) : St0 w K mg base G14 false 27 := by
  obtain ⟨fd, F⟩ := c.m.df (d := d_find_steps) (by simp [Hd.fn])
  have b : Binds K fd ["graph", "start", "goals", "signs"] [] := FunD.bindsN F fun _ _ _ _ _ _ us hl => match us, hl with | [_, _, _, _], _ => rfl
  have S : St0 w K mg base G13 false 24 := (s13 X G c)
  have g := fnG_of (N := ["graph", "start", "goals", "signs", "came", "queue", "at", "here", "step", "last"]) (ps := ["graph", "start", "goals", "signs"]) (fn := findF) (n := 6) (b := b_find_steps) F (by decide +kernel) S rfl rfl (by decide +kernel) (p_find ⟨rfl, rfl⟩)
  exact (S.mono (by omega)).addF (He.glo_ok X G (x := "find_steps") (c.m.fact (fa1 (by simp [fa0])))) F.kp b g
theorem s15 (X : K.In h) (G : h.Ns mainGlobals mg) (c : Sy K) : St0 w K mg base G15 false 30 := by
  obtain ⟨fd, F⟩ := c.m.df (d := d_imbalances) (by simp [Hd.fn])
  have b : Binds K fd ["graph", "row"] [] := FunD.bindsN F fun _ _ _ _ _ _ us hl => match us, hl with | [_, _], _ => rfl
  have S : St0 w K mg base G14 false 27 := (s14 X G c)
  have g := fnG_of (N := ["graph", "row", "rest", "edge", "tail", "head"]) (ps := ["graph", "row"]) (fn := imbsF) (n := 4) (b := b_imbalances) F (by decide +kernel) S rfl rfl (by decide +kernel) (p_imbalances ⟨⟨rfl, rfl, rfl⟩, rfl⟩ rfl)
  exact (S.mono (by omega)).addF (He.glo_ok X G (x := "imbalances") (c.m.fact (fa1 (by simp [fa0])))) F.kp b g
theorem s16 (X : K.In h) (G : h.Ns mainGlobals mg) (c : Sy K) : St0 w K mg base G16 false 33 := by
  obtain ⟨fd, F⟩ := c.m.df (d := d_refuse_unbalanced) (by simp [Hd.fn])
  have b : Binds K fd ["graph", "row", "modulus"] [] := FunD.bindsN F fun _ _ _ _ _ _ us hl => match us, hl with | [_, _, _], _ => rfl
  have S : St0 w K mg base G15 false 30 := (s15 X G c)
  have g := fnG_of (N := ["graph", "row", "modulus", "vertex", "rest"]) (ps := ["graph", "row", "modulus"]) (fn := refuseX) (n := 2) (b := b_refuse_unbalanced) F (by decide +kernel) S rfl rfl (by decide +kernel) (p_refuse rfl ⟨fxOne "vertex", rfl, fun i h => fxOne_at (decide_eq_true h)⟩)
  exact (S.mono (by omega)).addF (He.glo_ok X G (x := "refuse_unbalanced") (c.m.fact (fa1 (by simp [fa0])))) F.kp b g
theorem s17 (X : K.In h) (G : h.Ns mainGlobals mg) (c : Sy K) : St0 w K mg base G17 false 36 := by
  obtain ⟨fd, F⟩ := c.m.df (d := d_changes) (by simp [Hd.fn])
  have b : Binds K fd ["amounts"] [] := FunD.bindsN F fun _ _ _ _ _ _ us hl => match us, hl with | [_], _ => rfl
  have S : St0 w K mg base G16 false 33 := (s16 X G c)
  have g := fnG_of (N := ["amounts", "amount"]) (ps := ["amounts"]) (fn := changesF) (n := 1) (b := b_changes) F (by decide +kernel) S rfl rfl (by decide +kernel) p_changes
  exact (S.mono (by omega)).addF (He.glo_ok X G (x := "changes") (c.m.fact (fa1 (by simp [fa0])))) F.kp b g
theorem s18 (X : K.In h) (G : h.Ns mainGlobals mg) (c : Sy K) : St0 w K mg base G18 false 39 := by
  obtain ⟨fd, F⟩ := c.m.df (d := d_lift) (by simp [Hd.fn])
  have S : St0 w K mg base G17 false 36 := (s17 X G c)
  have g := fnG_of (N := ["graph", "row", "modulus", "edge", "amount", "amounts", "rest", "vertex", "steps", "other", "goal", "sign", "tail", "head"]) (ps := ["graph", "row", "modulus"]) (fn := liftX) (n := 11) (b := b_lift) F (by decide +kernel) S rfl rfl (by decide +kernel) (p_lift ⟨rfl, rfl, rfl, rfl, rfl, rfl, rfl, ⟨fxOne "modulus", rfl, fun i h => fxOne_at (decide_eq_true h)⟩, ⟨fxOne "edge", rfl, fun i h => fxOne_at (decide_eq_true h)⟩⟩)
  have gl := He.glo_ok X G (x := "lift") (c.m.fact (fa1 (by simp [fa0])))
  have kp := F.kp
  have bk : BindK K fd ["graph", "row", "modulus"] ["modulus"] [] := by
    obtain ⟨oc, od, dV, kV, doc, pm, an, cdv, ct, osl, rfl, lk, hcd, hD, _⟩ := F.ex
    rcases hD with ⟨_, rfl⟩ | ⟨e, _⟩
    · intro s us ws _ hl hw
      have hu : us.length = 2 := by
        simp only [List.length_append, List.length_cons, List.length_nil] at hl hw
        omega
      exact BindsTo.of_eq (match us, hu, ws, hw with
        | [_, _], _, [_], _ => rfl)
    · exact absurd rfl e
  exact Sta.addK (S.mono (by omega)) gl kp bk g
theorem s19 (X : K.In h) (G : h.Ns mainGlobals mg) (c : Sy K) : St0 w K mg base G19 false 42 := by
  obtain ⟨fd, F⟩ := c.m.df (d := d_law_cell) (by simp [Hd.fn])
  have b : Binds K fd ["script", "k"] [] := FunD.bindsN F fun _ _ _ _ _ _ us hl => match us, hl with | [_, _], _ => rfl
  have S : St0 w K mg base G18 false 39 := (s18 X G c)
  have g := fnG_of (N := ["script", "k"]) (ps := ["script", "k"]) (fn := cellF) (n := 0) (b := b_law_cell) F (by decide +kernel) S rfl rfl (by decide +kernel) p_cell
  exact (S.mono (by omega)).addF (He.glo_ok X G (x := "_law_cell") (c.m.fact (fa1 (by simp [fa0])))) F.kp b g
theorem s20 (X : K.In h) (G : h.Ns mainGlobals mg) (c : Sy K) : St0 w K mg base G20 false 45 := by
  obtain ⟨fd, F⟩ := c.m.df (d := d_law_numbers) (by simp [Hd.fn])
  have b : Binds K fd ["cell", "many"] [] := FunD.bindsN F fun _ _ _ _ _ _ us hl => match us, hl with | [_, _], _ => rfl
  have S : St0 w K mg base G19 false 42 := (s19 X G c)
  have g := fnG_of (N := ["cell", "many", "rest", "whole", "numbers", "k", "mixed"]) (ps := ["cell", "many"]) (fn := numbersF) (n := 5) (b := b_law_numbers) F (by decide +kernel) S rfl rfl (by decide +kernel) p_numbers
  exact (S.mono (by omega)).addF (He.glo_ok X G (x := "_law_numbers") (c.m.fact (fa1 (by simp [fa0])))) F.kp b g
theorem s21 (X : K.In h) (G : h.Ns mainGlobals mg) (c : Sy K) : St0 w K mg base G21 false 48 := by
  obtain ⟨fd, F⟩ := c.m.df (d := d_law_state) (by simp [Hd.fn])
  have b : Binds K fd ["script", "start", "many"] [] := FunD.bindsN F fun _ _ _ _ _ _ us hl => match us, hl with | [_, _, _], _ => rfl
  have S : St0 w K mg base G20 false 45 := (s20 X G c)
  have g := fnG_of (N := ["script", "start", "many", "numbers", "k", "cell"]) (ps := ["script", "start", "many"]) (fn := stateF) (n := 3) (b := b_law_state) F (by decide +kernel) S rfl rfl (by decide +kernel) (p_state ⟨rfl, rfl⟩)
  exact (S.mono (by omega)).addF (He.glo_ok X G (x := "_law_state") (c.m.fact (fa1 (by simp [fa0])))) F.kp b g
theorem s22 (X : K.In h) (G : h.Ns mainGlobals mg) (c : Sy K) : St0 w K mg base G22 false 51 := by
  obtain ⟨fd, F⟩ := c.m.df (d := d_law_next) (by simp [Hd.fn])
  have b : Binds K fd ["state", "many"] [] := FunD.bindsN F fun _ _ _ _ _ _ us hl => match us, hl with | [_, _], _ => rfl
  have S : St0 w K mg base G21 false 48 := (s21 X G c)
  have g := fnG_of (N := ["state", "many", "numbers", "place"]) (ps := ["state", "many"]) (fn := nextF) (n := 2) (b := b_law_next) F (by decide +kernel) S rfl rfl (by decide +kernel) p_next
  exact (S.mono (by omega)).addF (He.glo_ok X G (x := "_law_next") (c.m.fact (fa1 (by simp [fa0])))) F.kp b g
theorem s23 (X : K.In h) (G : h.Ns mainGlobals mg) (c : Sy K) : St0 w K mg base G23 false 54 := by
  obtain ⟨fd, F⟩ := c.m.df (d := d_law_any_pairs) (by simp [Hd.fn])
  have b : Binds K fd ["state", "many", "most"] [] := FunD.bindsN F fun _ _ _ _ _ _ us hl => match us, hl with | [_, _, _], _ => rfl
  have S : St0 w K mg base G22 false 51 := (s22 X G c)
  have g := fnG_of (N := ["state", "many", "most", "k"]) (ps := ["state", "many", "most"]) (fn := anyPairsF) (n := 1) (b := b_law_any_pairs) F (by decide +kernel) S rfl rfl (by decide +kernel) (p_any_pairs rfl)
  exact (S.mono (by omega)).addF (He.glo_ok X G (x := "_law_any_pairs") (c.m.fact (fa1 (by simp [fa0])))) F.kp b g
theorem s24 (X : K.In h) (G : h.Ns mainGlobals mg) (c : Sy K) : St0 w K mg base G24 false 57 := by
  obtain ⟨fd, F⟩ := c.m.df (d := d_law_shuffled) (by simp [Hd.fn])
  have b : Binds K fd ["state", "many"] [] := FunD.bindsN F fun _ _ _ _ _ _ us hl => match us, hl with | [_, _], _ => rfl
  have S : St0 w K mg base G23 false 54 := (s23 X G c)
  have g := fnG_of (N := ["state", "many", "row", "k", "other", "kept"]) (ps := ["state", "many"]) (fn := shufF) (n := 4) (b := b_law_shuffled) F (by decide +kernel) S rfl rfl (by decide +kernel) (p_shuffled rfl)
  exact (S.mono (by omega)).addF (He.glo_ok X G (x := "_law_shuffled") (c.m.fact (fa1 (by simp [fa0])))) F.kp b g
theorem s25 (X : K.In h) (G : h.Ns mainGlobals mg) (c : Sy K) : St0 w K mg base G25 false 60 := by
  obtain ⟨fd, F⟩ := c.m.df (d := d_law_by_ears) (by simp [Hd.fn])
  have b : Binds K fd ["state", "most"] [] := FunD.bindsN F fun _ _ _ _ _ _ us hl => match us, hl with | [_, _], _ => rfl
  have S : St0 w K mg base G24 false 57 := (s24 X G c)
  have g := fnG_of (N := ["state", "most", "rows", "many", "pairs", "k", "row", "at", "end", "j", "names", "found", "place", "one", "other"]) (ps := ["state", "most"]) (fn := earsF) (n := 13) (b := b_law_by_ears) F (by decide +kernel) S rfl rfl (by decide +kernel) (p_by_ears ⟨rfl, rfl⟩)
  exact (S.mono (by omega)).addF (He.glo_ok X G (x := "_law_by_ears") (c.m.fact (fa1 (by simp [fa0])))) F.kp b g
theorem s26 (X : K.In h) (G : h.Ns mainGlobals mg) (c : Sy K) : St0 w K mg base G26 false 63 := by
  obtain ⟨fd, F⟩ := c.m.df (d := d_law_rests) (by simp [Hd.fn])
  have b : Binds K fd ["many", "pairs", "row"] [] := FunD.bindsN F fun _ _ _ _ _ _ us hl => match us, hl with | [_, _, _], _ => rfl
  have S : St0 w K mg base G25 false 60 := (s25 X G c)
  have g := fnG_of (N := ["many", "pairs", "row", "rests", "vertex", "edge"]) (ps := ["many", "pairs", "row"]) (fn := restsF) (n := 3) (b := b_law_rests) F (by decide +kernel) S rfl rfl (by decide +kernel) p_rests
  exact (S.mono (by omega)).addF (He.glo_ok X G (x := "_law_rests") (c.m.fact (fa1 (by simp [fa0])))) F.kp b g
theorem s27 (X : K.In h) (G : h.Ns mainGlobals mg) (c : Sy K) : St0 w K mg base G27 false 66 := by
  obtain ⟨fd, F⟩ := c.m.df (d := d_law_some_flow) (by simp [Hd.fn])
  have b : Binds K fd ["state", "many", "pairs", "most"] [] := FunD.bindsN F fun _ _ _ _ _ _ us hl => match us, hl with | [_, _, _, _], _ => rfl
  have S : St0 w K mg base G26 false 63 := (s26 X G c)
  have g := fnG_of (N := ["state", "many", "pairs", "most", "row", "pair", "turn", "edge", "came", "vertex", "order", "k", "other", "first", "last", "sign", "times"]) (ps := ["state", "many", "pairs", "most"]) (fn := flowF) (n := 13) (b := b_law_some_flow) F (by decide +kernel) S rfl rfl (by decide +kernel) (p_some_flow ⟨rfl, rfl⟩)
  exact (S.mono (by omega)).addF (He.glo_ok X G (x := "_law_some_flow") (c.m.fact (fa1 (by simp [fa0])))) F.kp b g
theorem s28 (X : K.In h) (G : h.Ns mainGlobals mg) (c : Sy K) : St0 w K mg base G28 false 69 := by
  obtain ⟨fd, F⟩ := c.m.df (d := d_law_residue_row) (by simp [Hd.fn])
  have b : Binds K fd ["state", "many", "pairs", "modulus"] [] := FunD.bindsN F fun _ _ _ _ _ _ us hl => match us, hl with | [_, _, _, _], _ => rfl
  have S : St0 w K mg base G27 false 66 := (s27 X G c)
  have g := fnG_of (N := ["state", "many", "pairs", "modulus", "amount"]) (ps := ["state", "many", "pairs", "modulus"]) (fn := resRowF) (n := 1) (b := b_law_residue_row) F (by decide +kernel) S rfl rfl (by decide +kernel) (p_res_row rfl)
  exact (S.mono (by omega)).addF (He.glo_ok X G (x := "_law_residue_row") (c.m.fact (fa1 (by simp [fa0])))) F.kp b g
theorem s29 (X : K.In h) (G : h.Ns mainGlobals mg) (c : Sy K) : St0 w K mg base G29 false 72 := by
  obtain ⟨fd, F⟩ := c.m.df (d := d_law_told) (by simp [Hd.fn])
  have b : Binds K fd ["graph", "row", "modulus"] [] := FunD.bindsN F fun _ _ _ _ _ _ us hl => match us, hl with | [_, _, _], _ => rfl
  have S : St0 w K mg base G28 false 69 := (s28 X G c)
  have g := fnG_of (N := ["graph", "row", "modulus", "e"]) (ps := ["graph", "row", "modulus"]) (fn := told14F) (n := 1) (b := b_law_told14) F (by decide +kernel) S rfl rfl (by decide +kernel) (p_told14 ⟨rfl, by decide +kernel, by decide +kernel, by decide +kernel, by decide +kernel, by decide +kernel, by decide +kernel, by decide +kernel, by decide +kernel, by decide +kernel, by decide +kernel, by decide +kernel, by decide +kernel, by decide +kernel, by decide +kernel, by decide +kernel, by decide +kernel, by decide +kernel, by decide +kernel⟩)
  exact (S.mono (by omega)).addF (He.glo_ok X G (x := "_law_told") (c.m.fact (fa1 (by simp [fa0])))) F.kp b g
theorem s30 (X : K.In h) (G : h.Ns mainGlobals mg) (c : Sy K) : St0 w K mg base G30 true 75 := by
  obtain ⟨fd, F⟩ := c.m.df (d := d_law_asked) (by simp [Hd.fn])
  have b : Binds K fd ["graph", "many", "pairs", "row", "modulus"] [] := FunD.bindsN F fun _ _ _ _ _ _ us hl => match us, hl with | [_, _, _, _, _], _ => rfl
  have S : St0 w K mg base G29 true 72 := (s29 X G c).tt
  have g := fnG_of (N := ["graph", "many", "pairs", "row", "modulus", "passed", "told", "bad", "edge", "rests", "vertex", "choices", "rest"]) (ps := ["graph", "many", "pairs", "row", "modulus"]) (fn := ask14F) (n := 8) (b := b_law_asked14) F (by decide +kernel) S rfl rfl (by decide +kernel) (p_ask14 ⟨rfl, rfl⟩)
  exact (S.mono (by omega)).addF (He.glo_ok X G (x := "_law_asked") (c.m.fact (fa1 (by simp [fa0])))) F.kp b g
theorem facts {f : Addr} (X : K.In h) (G : h.Ns mainGlobals mg) (hfa : mg ("law" : Str) = some (.ref f)) (c : Sy K) :
    ∃ fd : FuncData, (∀ (s : Shared) (v : Value), BindsTo s fd ⟨[v], []⟩ [("script", v)]) ∧ ∀ base : Heap, K.In base → base.Ns mainGlobals mg → FnG true P w K mg base 78 f fd ["script"] (spOf (clG K) K lawF) := by
  obtain ⟨fd, F⟩ := c.m.df (d := d_law) (by simp [Hd.fn])
  have e := hfa.symm.trans (He.glo_ok X G (x := "law") (c.m.fact (fa1 (by simp [fa0]))))
  cases e
  have b := FunD.bindsA (ps := ["script"]) F fun _ _ _ _ _ _ us hl => match us, hl with | [_], _ => rfl
  exact ⟨fd, fun s v => b s [v] rfl, fun base X2 G2 => fnG_of (N := ["script", "state", "built", "many", "pairs", "graph", "turn", "modulus", "row", "pair", "amount", "changed", "choices"]) (ps := ["script"]) (fn := lawF) (n := 12) (b := b_law14) F (by decide +kernel) (s30 X2 G2 c) rfl rfl (by decide +kernel) (p_law14 ⟨rfl, rfl, rfl, rfl, rfl, rfl, rfl, rfl⟩)⟩
end Lk
open PySem PySem.W PySem.Calls PyProof.Rows
theorem PySem.Challenge.cw_nowherezero_k14_lifted_rows_holds : PySem.Challenge.rw_nowherezero_k14_lifted_rows.Holds := by
  w_on; o_law
  refine HandSHeadRun.head_any (r := OpenLaw.row PySem.Challenge.rw_nowherezero_k14_lifted_rows) (q := view (OpenLaw.row PySem.Challenge.rw_nowherezero_k14_lifted_rows).prog [37]) (H := Hd.hk) (ob := Hd.ob) (M := 6000) (loose := Hd.loose) (d := HandSHeadRun.topDef (OpenLaw.row PySem.Challenge.rw_nowherezero_k14_lifted_rows).prog 37) (kwd := []) Hd.ob_eq
    (by kernel_rfl) (fun s => by kernel_rfl) Hd.run (by kernel_rfl) (by kernel_rfl) (by kernel_rfl) (by rfl) (by first | assumption | decide +kernel) (by decide +kernel) ⟨rfl, rfl, rfl, rfl, rfl, by decide +kernel⟩ ?hw ?hc
  case hw => w_witness2
  case hc =>
    refine M.walkG (l := PySem.Challenge.rw_nowherezero_k14_lifted_rows) (n := 63) (k := 78) (x := "script") rfl (by decide) (by kernel_rfl) ⟨rfl, by decide, by decide⟩ ?F
    intro w mg fa h Y G hmg0
    obtain ⟨K, KX, c⟩ := Y
    have hmg : mg ("law" : PySem.Str) = some (.ref fa) := by
      have e : (HandSHeadRun.topDef (OpenLaw.row PySem.Challenge.rw_nowherezero_k14_lifted_rows).prog 37).name = ("law" : PySem.Str) := by kernel_rfl
      rw [← e]
      exact hmg0
    obtain ⟨fd, hb, hF⟩ := Lk.facts (w := w) KX G hmg c
    exact ⟨K, fd, Lk.clG K, M.lawF, KX, hb, rfl, fun ns hl => ⟨ns, rfl, hl, rfl⟩, hF⟩
