import PyProof.Rows.All
import Wide.All
import OpenK.AllK
import Wide.FinOn
import HandS.ForMost
import HandS.IsInst
import HandS.TupAny
import HandS.Style
import HandS.Flow
import HandS.Conv
import HandS.SortInts
import HandS.RaiseMore
import HandS.Wide
import HandS.SortOrd
import HandS.SortKw
import KE.DataEq
import KE.DataCmp
import KE.DataIsa
import KE.SortData
import KE.KDictKeyed
import HandS.Lambda
import HandS.SetFor
import HandS.Strs
import KE.KDictList
import KE.KDictBranch
import PyProof.DictTruth
import HandS.TupLen
import HandS.More
import OpenK.KMore
import KE.KRevSl
import HandS.ExcInit
import HandS.ExcIs
import HandS.MakeKwOnly
import KE.GoesEnum
import HandS.Iter
import KE.KNestM
import KE.KStateDown
import HandS.Words
import HandS.WordsExc
import HandS.Defaults
import HandS.Head0
import HandS.Head1
import HandS.Head2
import HandS.HeadEnd
import HandS.HeadHook1
import HandS.HeadHook2
import PySem.Challenge.RW_inplace_k50_patterns_and_held_cells
set_option Elab.async false
set_option linter.all false
set_option maxRecDepth 100000
/-! G.Core: plain data, trees of draws, a small language with slots, its evaluation. -/
namespace G
open PySem
abbrev St := L2.St
abbrev It' := L2.It

/-- plain data -/
inductive D where
  | non | bl (b : Bool) | int (i : Int) | str (x : Str)
  | tup (l : List D) | lst (l : List D) | dct (l : List (D × D)) | set (l : List D)
  | ins (c : Nat) (fs : List D) | exn (c : Nat) (fs : List D) | clo (b : Nat) (cap : List D) | rnd | scr (l : List Int)

/-- a tree of draws: at a node some number below n is drawn -/
inductive Tr (α : Type) where
  | ret (a : α)
  | ch (n : Nat) (k : Nat → Tr α)
def Tr.bind {α β : Type} : Tr α → (α → Tr β) → Tr β
  | .ret a, f => f a
  | .ch n k, f => .ch n fun i => (k i).bind f
/-- whatever is drawn -/
def Tr.All {α : Type} (P : α → Prop) : Tr α → Prop
  | .ret a => P a
  | .ch n k => ∀ i, i < n → (k i).All P
theorem Tr.All.mono {α : Type} {P Q : α → Prop} : ∀ {t : Tr α}, t.All P → (∀ a, P a → Q a) → t.All Q
  | .ret _, h, f => f _ h
  | .ch _ _, h, f => fun i hi => Tr.All.mono (h i hi) f
theorem Tr.all_bind {α β : Type} {P : β → Prop} {f : α → Tr β} : ∀ {t : Tr α}, (t.bind f).All P ↔ t.All fun a => (f a).All P
  | .ret _ => Iff.rfl
  | .ch n k => ⟨fun h i hi => Tr.all_bind.mp (h i hi), fun h i hi => Tr.all_bind.mpr (h i hi)⟩
theorem Tr.bind_assoc {α β γ : Type} {f : α → Tr β} {g : β → Tr γ} : ∀ {t : Tr α}, (t.bind f).bind g = t.bind fun a => (f a).bind g
  | .ret _ => rfl
  | .ch n k => by simp only [Tr.bind]; congr; funext i; exact Tr.bind_assoc
theorem Tr.bind_ret {α : Type} : ∀ {t : Tr α}, t.bind Tr.ret = t
  | .ret _ => rfl
  | .ch n k => by simp only [Tr.bind]; congr; funext i; exact Tr.bind_ret

/-- slots: how deep a slot owns its datum, the datum -/
abbrev Env := List (Option (Nat × D))
inductive Rs (α : Type) where
  | ok (a : α) (e : Env)
  | err (x : D) (e : Env)
  | no
abbrev M (α : Type) := Env → Tr (Rs α)
def pu {α : Type} (a : α) : M α := fun e => .ret (.ok a e)
def no {α : Type} : M α := fun _ => .ret .no
def rz {α : Type} (x : D) : M α := fun e => .ret (.err x e)
def mk {α β : Type} (f : α → M β) : Rs α → Tr (Rs β)
  | .ok a e => f a e
  | .err x e => .ret (.err x e)
  | .no => .ret .no
def mb {α β : Type} (m : M α) (f : α → M β) : M β := fun e => (m e).bind (mk f)
def op {α : Type} : Option α → M α
  | some a => pu a
  | none => no
def tst {α : Type} (b : Bool) (m : M α) : M α := if b = true then m else no
/-- what a call gives: whether it is fresh, the datum -/
inductive FO where
  | ok (fr : Bool) (d : D)
  | err (x : D)
  | no
abbrev Fn := List D → Tr FO

/-! ### data -/
mutual
def D.py : D → Option PyData
  | .non => some .none
  | .bl b => some (.bool b)
  | .int i => some (.int i)
  | .str x => some (.str x)
  | .tup l => (D.pys l).map .tuple
  | .lst l => (D.pys l).map .list
  | .dct l => (D.pyk l).map .dict
  | _ => none
def D.pys : List D → Option (List PyData)
  | [] => some []
  | d :: r => match D.py d, D.pys r with
    | some a, some b => some (a :: b)
    | _, _ => none
def D.pyk : List (D × D) → Option (List (PyData × PyData))
  | [] => some []
  | (k, d) :: r => match D.py k, D.py d, D.pyk r with
    | some a, some b, some c => some ((a, b) :: c)
    | _, _, _ => none
end
mutual
/-- nothing in it can change -/
def D.fix : D → Bool
  | .non | .bl _ | .int _ | .str _ | .rnd | .scr _ => true
  | .tup l => D.fixs l
  | _ => false
def D.fixs : List D → Bool
  | [] => true
  | d :: r => D.fix d && D.fixs r
end
/-- all that can change in it is its own top -/
def D.tight : D → Bool
  | .lst l => D.fixs l
  | .set _ => true
  | .dct l => l.all fun p => p.1.fix && p.2.fix
  | d => d.fix
mutual
/-- no function in it -/
def D.noClo : D → Bool
  | .tup l => D.noClos l
  | .lst l => D.noClos l
  | .dct l => D.noCloK l
  | .exn _ fs => D.noClos fs
  | .ins _ fs => D.noClos fs
  | .clo _ _ => false
  | _ => true
def D.noClos : List D → Bool
  | [] => true
  | d :: r => D.noClo d && D.noClos r
def D.noCloK : List (D × D) → Bool
  | [] => true
  | (k, d) :: r => D.noClo k && D.noClo d && D.noCloK r
end
def pl (x : PyData) : Bool := x.plain && decide (x.depth ≤ 64)
def eqD (a b : D) : Option Bool := match a.py, b.py with
  | some x, some y => if pl x = true ∧ pl y = true then some (PyData.eqv x y) else none
  | _, _ => none
/-- keys of dicts: ints and texts, tuples of such -/
def keyD : D → Option L2.Key
  | .int i => some (.inl i)
  | .str x => some (.inr x)
  | _ => none
def D.truth : D → Option Bool
  | .non => some false
  | .bl b => some b
  | .int i => some (i != 0)
  | .str x => if x.length ≤ sizeLine then some ((x.length : Int) != 0) else none
  | .tup l => some (!l.isEmpty)
  | .lst l => some (!l.isEmpty)
  | _ => none

/-! ### operations by data -/
inductive Ty where
  | int | bool | str | list | tuple | dict | set | ve | cls (c : Nat)
  deriving DecidableEq
/-- isinstance; classes by the table of their chains -/
def isTy (sub : Nat → List Nat) : Ty → D → Bool
  | .int, .int _ => true
  | .int, .bl _ => true
  | .bool, .bl _ => true
  | .str, .str _ => true
  | .list, .lst _ => true
  | .tuple, .tup _ => true
  | .dict, .dct _ => true
  | .set, .set _ => true
  | .ve, .exn _ _ => true
  | .cls c, .ins k _ => (sub k).contains c
  | .cls c, .exn k _ => (sub k).contains c
  | _, _ => false
inductive B where
  | add | sub | mul | fdiv | mod | pow | neg
  | eq | ne | lt | le | gt | ge | isN | notN | inn | nin
  | idx | slc (lo hi : Bool) | rev
  | len | list | tuple | set | sorted | dict | abs | int | max2 | min2 | maxL | minL | sum | any | all | repr | tupR | listR
  | isi (ts : List Ty) (one : Bool) | isx (t : Ty) | att (tbl : List (Nat × Nat))
  | get1 | get2 | keys | range1 | range2 | enum | zip | items
  deriving DecidableEq

def D.seq : D → Option (List D)
  | .lst l => some l
  | .tup l => some l
  | _ => none
def iL : List D → Option (List Int)
  | [] => some []
  | .int i :: r => (iL r).map (i :: ·)
  | _ => none
/-- ints, or tuples of iL: the first below the second -/
def ltLex : List Int → List Int → Bool
  | [], [] => false
  | [], _ :: _ => true
  | _ :: _, [] => false
  | a :: r, b :: t => if a = b then ltLex r t else decide (a < b)
def iLL : List D → Option (List (List Int))
  | [] => some []
  | .tup l :: r => match iL l, iLL r with
    | some a, some b => some (a :: b)
    | _, _ => none
  | _ => none
def insL {α : Type} (lt : α → α → Bool) (x : α) : List α → List α
  | [] => [x]
  | y :: r => if lt x y = true then x :: y :: r else y :: insL lt x r
/-- sorted, stable -/
def srt {α : Type} (lt : α → α → Bool) : List α → List α
  | [] => []
  | x :: r => insL lt x (srt lt r)
def tupI (l : List Int) : D := .tup (l.map .int)
def sortD (l : List D) : Option (List D) := (iL l).map fun a => (srt (fun x y : Int => decide (x < y)) a).map .int
/-- each once, the first time -/
def ddI {α : Type} [DecidableEq α] : List α → List α
  | [] => []
  | x :: r => x :: (ddI r).filter (fun y => y ≠ x)
def setD (l : List D) : Option (List D) := match iL l with
  | some a => if a.length < 1000 then some ((ddI a).map .int) else none
  | none => none
def pos? (i : Int) (n : Nat) : Option Nat := if 0 ≤ i then (if i.toNat < n then some i.toNat else none) else if 0 ≤ i + n then some (i + n).toNat else none
/-- a slice's bound -/
def clip (i : Int) (n : Nat) : Nat := if 0 ≤ i then min i.toNat n else (i + n).toNat
def big (i : Int) : Bool := decide (i.natAbs < 18446744073709551616)
def anyEq (x : D) (l : List D) : Option Bool := match x.py, D.pys l with
  | some d, some xs => if pl d = true ∧ pl (.list xs) = true then some (xs.any fun y => PyData.eqv y d) else none
  | _, _ => none
def rangeD (a b : Int) : List D := (List.range (b - a).toNat).map fun (i : Nat) => D.int (a + (i : Int))
def enumD (l : List D) : List D := l.zipIdx.map fun p => D.tup [.int (p.2 : Int), p.1]
def zipD (a b : List D) : List D := (a.zip b).map fun p => D.tup [p.1, p.2]
mutual
/-- a dict's key -/
def D.nk : D → Option NestedKey
  | .non => some .none
  | .int i => some (.num i)
  | .bl b => some (.num (if b = true then 1 else 0))
  | .str x => some (.text x)
  | .tup l => (D.nks l).map .tup
  | _ => none
def D.nks : List D → Option (List NestedKey)
  | [] => some []
  | d :: r => match D.nk d, D.nks r with
    | some a, some b => some (a :: b)
    | _, _ => none
end
def isKey (d : D) : Bool := match d.nk with
  | some k => decide (k.depth ≤ 8)
  | none => false
def sameK (a b : D) : Bool := decide (a.nk = b.nk)
def lookD (k : D) : List (D × D) → Option D
  | [] => none
  | (j, v) :: r => if sameK j k = true then some v else lookD k r
def putD (k v : D) : List (D × D) → List (D × D)
  | [] => [(k, v)]
  | (j, w) :: r => if sameK j k = true then (j, v) :: r else (j, w) :: putD k v r
def isTupK : D → Bool
  | .tup _ => true
  | _ => false
/-- keys of one dict are all tuples or none -/
def keyOk (k : D) (l : List (D × D)) : Bool := isKey k && l.all fun p => isTupK p.1 == isTupK k
def dictD : List D → List (D × D) → Option (List (D × D))
  | [], acc => some acc
  | .tup [k, v] :: r, acc => if keyOk k acc = true then dictD r (putD k v acc) else none
  | _, _ => none

/-- a dict display's keys and values -/
def ddS : List D → List (D × D) → Option (List (D × D))
  | [], acc => some acc
  | k :: v :: r, acc => if keyOk k acc = true then ddS r (putD k v acc) else none
  | _, _ => none
def cut {α : Type} (l : List α) (lo hi : Option Int) : List α := (l.drop (HT.sIx l.length 0 lo)).take (HT.sIx l.length l.length hi - HT.sIx l.length 0 lo)
def bAdd : List D → Option D
  | [.int a, .int b] => some (.int (a + b))
  | [.str a, .str b] => if a.length + b.length ≤ sizeLine then some (.str (a ++ b)) else none
  | [.lst a, .lst b] => if a.length + b.length ≤ sizeLine then some (.lst (a ++ b)) else none
  | [.tup a, .tup b] => if a.length + b.length ≤ sizeLine then some (.tup (a ++ b)) else none
  | _ => none
def bMul : List D → Option D
  | [.int a, .int b] => if (big a || big b) = true then some (.int (a * b)) else none
  | [.lst a, .int n] => if -1000 ≤ n ∧ n ≤ 1000 ∧ a.length ≤ 1000 then some (.lst (List.replicate n.toNat a).flatten) else none
  | _ => none
def bII (f : Int → Int → Option D) : List D → Option D
  | [.int a, .int b] => f a b
  | _ => none
def b1 (f : D → Option D) : List D → Option D
  | [a] => f a
  | _ => none
def b2 (f : D → D → Option D) : List D → Option D
  | [a, b] => f a b
  | _ => none
def inD (x c : D) : Option Bool := match c with
  | .lst l => anyEq x l
  | .tup l => anyEq x l
  | .set l => match x, iL l with
    | .int i, some ns => some (decide (i ∈ ns))
    | _, _ => none
  | _ => none
def idxD : D → D → Option D
  | .lst l, .int i => L2.atI l i
  | .tup l, .int i => L2.atI l i
  | _, _ => none
def slcD (lo hi : Option Int) : D → Option D
  | .lst l => some (.lst (cut l lo hi))
  | .tup l => some (.tup (cut l lo hi))
  | .scr l => some (.lst (cut (l.map .int) lo hi))
  | _ => none
def bSlc : Bool → Bool → List D → Option D
  | true, true, [d, .int a, .int b] => slcD (some a) (some b) d
  | true, false, [d, .int a] => slcD (some a) none d
  | false, true, [d, .int b] => slcD none (some b) d
  | false, false, [d] => slcD none none d
  | _, _, _ => none
def lenD : D → Option D
  | .lst l => some (.int l.length)
  | .tup l => some (.int l.length)
  | .dct l => some (.int l.length)
  | .set l => some (.int l.length)
  | .scr l => some (.int l.length)
  | .str x => if x.length ≤ sizeLine then some (.int x.length) else none
  | _ => none
def listD : D → Option D
  | .lst l => some (.lst l)
  | .tup l => some (.lst l)
  | .dct l => some (.lst (l.map (·.1)))
  | _ => none
def tupleD : D → Option D
  | .lst l => some (.tup l)
  | .tup l => some (.tup l)
  | _ => none
def setB : D → Option D
  | .lst l => (setD l).map .set
  | .tup l => (setD l).map .set
  | _ => none
def sortB : D → Option D
  | .lst l => (sortD l).map .lst
  | .tup l => (sortD l).map .lst
  | .set l => if l.length < 64 then (sortD l).map .lst else none
  | _ => none
def revD : D → Option D
  | .lst l => some (.lst l.reverse)
  | .tup l => some (.tup l.reverse)
  | _ => none
def dictB : D → Option D
  | .lst l => (dictD l []).map .dct
  | _ => none
def absD : D → Option D
  | .int a => some (.int (if a < 0 then -a else a))
  | _ => none
def negD : D → Option D
  | .int a => some (.int (-a))
  | _ => none
def intD : D → Option D
  | .int a => some (.int a)
  | .bl a => some (.int (if a = true then 1 else 0))
  | _ => none
def maxLD : D → Option D
  | .lst l => match iL l with | some (a :: r) => some (.int (r.foldl max a)) | _ => none
  | _ => none
def minLD : D → Option D
  | .lst l => match iL l with | some (a :: r) => some (.int (r.foldl min a)) | _ => none
  | _ => none
def sumD : D → Option D
  | .lst l => (iL l).map fun a => .int a.sum
  | _ => none
def bL : List D → Option (List Bool)
  | [] => some []
  | .bl b :: r => (bL r).map (b :: ·)
  | _ => none
def anyD : D → Option D
  | .lst l => (bL l).map fun bs => .bl (bs.any id)
  | _ => none
def allD : D → Option D
  | .lst l => (bL l).map fun bs => .bl (bs.all id)
  | _ => none
def isE : D → Bool
  | .dct [] => true
  | _ => false
def reprD (d : D) : Option D := match d.py with
  | some x => if x.showable = true ∧ (x.hasDict = false ∨ isE d = true) ∧ x.depth ≤ 64 ∧ x.shown.length ≤ sizeLine then some (.str x.shown) else none
  | none => none
def isNone : D → Bool
  | .non => true
  | _ => false
/-- a datum's type -/
def tyD : D → Option String
  | .non => some "NoneType"
  | .bl _ => some "bool"
  | .int _ => some "int"
  | .str _ => some "str"
  | .tup _ => some "tuple"
  | .lst _ => some "list"
  | .dct _ => some "dict"
  | _ => none
def Ty.own : Ty → Bool
  | .cls _ => true
  | .ve => true
  | _ => false
/-- isinstance of an error, asked for a class of the program's own or ValueError -/
def isxD (sub : Nat → List Nat) (t : Ty) : D → Option D
  | .exn c _ => match t with
    | .cls k => if (sub c).isEmpty = false ∧ (sub k).isEmpty = false then some (.bl ((sub c).contains k)) else none
    | .ve => if (sub c).isEmpty = false then some (.bl true) else none
    | _ => none
  | _ => none
/-- an attribute: its place by the class -/
def attD (tbl : List (Nat × Nat)) : D → Option D
  | .exn c fs => match tbl.lookup c with
    | some i => fs[i]?
    | none => none
  | _ => none
def bsem (sub : Nat → List Nat) : B → List D → Option D
  | .add => bAdd
  | .sub => bII fun a b => some (.int (a - b))
  | .mul => bMul
  | .fdiv => bII fun a b => if 0 < b ∧ b < 1073741824 then some (.int (a / b)) else none
  | .mod => bII fun a b => if 0 < b then some (.int (a % b)) else none
  | .pow => bII fun a b => if 0 ≤ b ∧ b ≤ 1000 ∧ big a = true then some (.int (a ^ b.toNat)) else none
  | .neg => b1 negD
  | .eq => b2 fun a b => (eqD a b).map .bl
  | .ne => b2 fun a b => (eqD a b).map fun c => .bl (!c)
  | .lt => bII fun a b => some (.bl (decide (a < b)))
  | .le => bII fun a b => some (.bl (decide (a ≤ b)))
  | .gt => bII fun a b => some (.bl (decide (b < a)))
  | .ge => bII fun a b => some (.bl (decide (b ≤ a)))
  | .isN => b1 fun a => some (.bl (isNone a))
  | .notN => b1 fun a => some (.bl (!isNone a))
  | .inn => b2 fun x c => (inD x c).map .bl
  | .nin => b2 fun x c => (inD x c).map fun b => .bl (!b)
  | .idx => b2 idxD
  | .slc lo hi => bSlc lo hi
  | .rev => b1 revD
  | .len => b1 lenD
  | .list => b1 listD
  | .tuple => b1 tupleD
  | .set => b1 setB
  | .sorted => b1 sortB
  | .dict => b1 dictB
  | .abs => b1 absD
  | .int => b1 intD
  | .max2 => bII fun a b => some (.int (if b > a then b else a))
  | .min2 => bII fun a b => some (.int (if b < a then b else a))
  | .maxL => b1 maxLD
  | .minL => b1 minLD
  | .sum => b1 sumD
  | .any => b1 anyD
  | .all => b1 allD
  | .repr => b1 reprD
  | .tupR => b1 fun d => match d with | .int n => if 0 ≤ n ∧ n ≤ 10000 then some (.tup (rangeD 0 n)) else none | _ => none
  | .listR => b1 fun d => match d with | .int n => if 0 ≤ n ∧ n ≤ 10000 then some (.lst (rangeD 0 n)) else none | _ => none
  | .isi ts _ => b1 fun d => if ((tyD d).isSome && ts.all fun t => !t.own) = true then some (.bl (ts.any fun t => isTy sub t d)) else none
  | .isx t => b1 (isxD sub t)
  | .att tbl => b1 (attD tbl)
  | .get1 => b2 fun c k => match c with | .dct l => if keyOk k l = true then some ((lookD k l).getD .non) else none | _ => none
  | .get2 => fun ds => match ds with | [.dct l, k, d] => if keyOk k l = true then some ((lookD k l).getD d) else none | _ => none
  | _ => fun _ => none

/-- what a for walks -/
inductive It where
  | seq | range1 | range2 | enum | zip | keys | items | vals | rev
  deriving DecidableEq
def isem : It → List D → Option (List D)
  | .seq, [.lst l] => some l
  | .seq, [.tup l] => some l
  | .range1, [.int n] => if -1000000000 < n ∧ n < 1000000000 then some (rangeD 0 n) else none
  | .range2, [.int a, .int b] => if (-1000000000 < a ∧ a < 1000000000) ∧ (-1000000000 < b ∧ b < 1000000000) then some (rangeD a b) else none
  | .enum, [.lst l] => some (enumD l)
  | .enum, [.tup l] => some (enumD l)
  | .zip, [.lst a, .lst b] => some (zipD a b)
  | .zip, [.tup a, .tup b] => some (zipD a b)
  | .keys, [.dct l] => some (l.map (·.1))
  | .items, [.dct l] => some (l.map fun p => .tup [p.1, p.2])
  | .vals, [.dct l] => some (l.map (·.2))
  | .rev, [.lst l] => some l.reverse
  | _, _ => none

/-- what changes an object at a slot: the object's datum, the arguments; the new datum, the answer -/
inductive Mu where
  | append | pop0 | pop1 | insert | put | clear | extend | popD
  deriving DecidableEq
def msem : Mu → D → List D → Option (D × D)
  | .append, .lst l, [x] => if l.length < sizeLine then some (.lst (l ++ [x]), .non) else none
  | .pop0, .lst l, [] => match l.getLast? with | some x => some (.lst l.dropLast, x) | none => none
  | .pop1, .lst l, [.int i] => if l.length ≤ sizeLine then (match L2.ixN l.length i with | some k => (match l[k]? with | some x => some (.lst (l.eraseIdx k), x) | none => none) | none => none) else none
  | .insert, .lst l, [.int i, x] => if 0 ≤ i ∧ i < 1000000000 ∧ l.length < sizeLine then some (.lst (l.take i.toNat ++ [x] ++ l.drop i.toNat), .non) else none
  | .put, .lst l, [.int i, x] => match L2.ixN l.length i with | some k => some (.lst (l.set k x), .non) | none => none
  | .clear, .lst _, [] => some (.lst [], .non)
  | .extend, .lst l, [.lst m] => if l.length + m.length ≤ sizeLine then some (.lst (l ++ m), .non) else none
  | _, _, _ => none

/-! ### the language -/
mutual
inductive E where
  | v (i : Nat)
  | c (d : D)
  | g (x : Str) (d : D)
  | tup (es : Es) | lst (es : Es)
  | b (o : B) (es : Es)
  | not (a : E) | and (a b : E) | or (a b : E)
  | ite (c a b : E)
  | ch (o o' : B) (a b c : E)
  | sl (a b c : E) | rv (a : E)
  | f (j : Nat) (es : Es) (kw : List Str) (ord : List Nat)
  | mu (o : Mu) (i : Nat) (es : Es)
  | lc (own : List (Str × Nat)) (tg : List Nat) (it : It) (es : Es) (cs : Es) (elt : E)
  | dc (own : List (Str × Nat)) (tg : List Nat) (it : It) (es : Es) (cs : Es) (key val : E)
  | dd (es : Es)
  | mk (c : Nat) (es : Es)
  | lam (k : Nat)
  | cw (i j : Nat)
  | fw (j : Nat) (e : E) (caps : List (List Nat))
inductive Es where
  | nil
  | cons (e : E) (r : Es)
end
mutual
inductive S where
  | asg (i : Nat) (e : E)
  | par (is : List Nat) (es : Es)
  | unp (is : List Nat) (e : E)
  | put (i : Nat) (k e : E)
  | ex (e : E)
  | ret (e : E) | ret0
  | ite (c : E) (a b : Ss)
  | whl (fuel : Nat) (c : E) (b : Ss)
  | for_ (tg : List Nat) (it : It) (es : Es) (b : Ss)
  | aug (i : Nat) (o : B) (e : E)
  | brk | cnt | pss
  | rse (c : Nat) (es : Es)
  | try_ (b : Ss) (c : Nat) (i : Option Nat) (h : Ss)
inductive Ss where
  | nil
  | cons (s : S) (r : Ss)
end

/-! ### the evaluator -/
inductive Pl where
  | t (n : Nat) (d : D)
  | v (i : Nat)
def getE (i : Nat) : M (Nat × D) := fun e => match e[i]? with
  | some (some r) => .ret (.ok r e)
  | _ => .ret .no
def setE (i : Nat) (r : Nat × D) : M Unit := fun e => if i < e.length then .ret (.ok () (e.set i (some r))) else .ret .no
/-- the slot's datum, given away -/
def frzE (i : Nat) : M (Nat × D) := mb (getE i) fun r => mb (setE i (0, r.2)) fun _ => pu (0, r.2)
def plOf (e : E) (m : M (Nat × D)) : M Pl := match e with
  | .v i => mb (getE i) fun _ => pu (.v i)
  | _ => mb m fun r => pu (.t r.1 r.2)
def rdP : Pl → M (Nat × D)
  | .t n d => pu (n, d)
  | .v i => getE i
def rdPs : List Pl → M (List (Nat × D))
  | [] => pu []
  | p :: r => mb (rdP p) fun a => mb (rdPs r) fun l => pu (a :: l)
def vlP : Pl → M (Nat × D)
  | .t n d => pu (n, d)
  | .v i => frzE i
def vlPs : List Pl → M (List (Nat × D))
  | [] => pu []
  | p :: r => mb (vlP p) fun a => mb (vlPs r) fun l => pu (a :: l)
/-- read by an operation: not owned, or owned at its top alone -/
def ok1 : Nat → D → Bool
  | 0, _ => true
  | 1, .tup _ => false
  | 1, _ => true
  | _, _ => false
def okN (l : List (Nat × D)) : Bool := l.all fun r => ok1 r.1 r.2
def top : D → Nat
  | .lst _ => 1
  | .dct _ => 1
  | .set _ => 1
  | _ => 0
/-- how deep an operation's answer is owned -/
def bopN : B → D → Nat
  | .idx, _ => 0
  | .get1, _ => 0
  | .get2, _ => 0
  | .att _, _ => 0
  | _, d => top d
def bopE (sub : Nat → List Nat) (o : B) (ps : List Pl) : M (Nat × D) := mb (rdPs ps) fun l => tst (okN l) (mb (op (bsem sub o (l.map (·.2)))) fun d => pu (bopN o d, d))
def truthE (r : Nat × D) : M Bool := op r.2.truth
def foE : FO → M (Nat × D)
  | .ok fr d => pu (if fr = true then top d else 0, d)
  | .err x => rz x
  | .no => no
def ltr {α : Type} (t : Tr α) : M α := fun e => t.bind fun a => .ret (.ok a e)
def permD (l : List (Nat × D)) (ord : List Nat) : List D := ord.map fun i => (l.getD i (0, .non)).2
def callE (F : Nat → Fn) (j : Nat) (ps : List Pl) (ord : List Nat) : M (Nat × D) := mb (vlPs ps) fun l => tst (l.length == ord.length) (mb (ltr (F j (permD l ord))) foE)
/-- a target of names takes a datum -/
def bindTs : List Nat → List D → M Unit
  | [], [] => pu ()
  | i :: is, d :: ds => mb (setE i (0, d)) fun _ => bindTs is ds
  | _, _ => no
def bindT : List Nat → D → M Unit
  | [i], d => setE i (0, d)
  | is, .tup l => bindTs is l
  | _, _ => no
def wipeE (own : List Nat) (e : Env) : Env := own.foldl (fun e i => e.set i none) e
def backE (own : List Nat) (e₀ e : Env) : Env := own.foldl (fun e i => e.set i ((e₀[i]?).getD none)) e
/-- in a comprehension's block -/
def idle (own : List Nat) (e : Env) : Bool := own.all fun i => match e[i]? with | some (some r) => r.1 == 0 | _ => true
def blkE {α : Type} (own : List Nat) (m : M α) : M α := fun e => if idle own e = true then (m e).bind fun
  | .ok a e' => .ret (.ok a (backE own e e'))
  | _ => .ret .no else .ret .no
def compE (tg : List Nat) (own : List Nat) (test : M Bool) (elt : M (Nat × D)) : List D → List D → M (List D)
  | [], acc => pu acc
  | x :: r, acc => mb (fun e => .ret (.ok () (wipeE own e))) fun _ => mb (bindT tg x) fun _ => mb test fun t => if t = true then mb elt fun y => tst (decide (acc.length < sizeLine)) (compE tg own test elt r (acc ++ [y.2])) else compE tg own test elt r acc
def compD (tg : List Nat) (own : List Nat) (test : M Bool) (key val : M (Nat × D)) : List D → List (D × D) → M (List (D × D))
  | [], acc => pu acc
  | x :: r, acc => mb (fun e => .ret (.ok () (wipeE own e))) fun _ => mb (bindT tg x) fun _ => mb test fun t => if t = true then mb key fun k => mb val fun y => tst (keyOk k.2 acc && decide (acc.length < sizeLine)) (compD tg own test key val r (putD k.2 y.2 acc)) else compD tg own test key val r acc

def isL : D → Bool
  | .lst _ => true
  | _ => false
/-- the thing at a slot is changed -/
def muE (o : Mu) (i : Nat) (ds : List D) : M (Nat × D) := mb (getE i) fun x => tst (x.1 == 1) (mb (op (msem o x.2 ds)) fun r => mb (setE i (1, r.1)) fun _ => pu (0, r.2))
def isI : D → Bool
  | .int _ => true
  | _ => false
def isClo : D → Bool
  | .clo _ _ => true
  | _ => false
/-- the slots given away, their data -/
def frzs : List Nat → M (List D)
  | [] => pu []
  | i :: r => mb (frzE i) fun x => mb (frzs r) fun l => pu (x.2 :: l)
def FO.noClo : FO → Bool
  | .ok _ d => d.noClo
  | .err x => x.noClo
  | .no => true
/-- a def that takes a function is called with it; what the function takes from its frame is read now -/
def fwE (F : Fn) (caps : List (List Nat)) (r : Nat × D) : M (Nat × D) := match r.2 with
  | .clo k _ => mb (frzs (caps.getD k [])) fun l => tst (D.noClos l) (mb (ltr (F [.clo k l])) fun r => tst r.noClo (foE r))
  | _ => no
structure EM where
  val : M (Nat × D)
  test : M Bool
def em (e : E) (m : M (Nat × D)) : EM := ⟨m, mb (plOf e m) fun p => mb (rdP p) truthE⟩
section
variable (sub : Nat → List Nat) (F : Nat → Fn)
mutual
def ev : E → EM
  | .v i => em (.v i) (frzE i)
  | .c d => em (.c d) (pu (1, d))
  | .g x d => em (.g x d) (pu (1, d))
  | .tup es => em (.tup es) (mb (evPs es) fun ps => mb (vlPs ps) fun l => tst (decide (l.length ≤ 1000)) (pu (0, .tup (l.map (·.2)))))
  | .lst es => em (.lst es) (mb (evPs es) fun ps => mb (vlPs ps) fun l => tst (decide (l.length ≤ 1000)) (pu (1, .lst (l.map (·.2)))))
  | .b o es => em (.b o es) (mb (evPs es) fun ps => bopE sub o ps)
  | .not a => ⟨mb (plOf a (ev a).val) fun p => mb (rdP p) fun r => mb (truthE r) fun t => pu (1, .bl (!t)), mb (ev a).test fun t => pu (!t)⟩
  | .and a b => ⟨mb (ev a).val fun x => mb (truthE x) fun t => if t = true then (ev b).val else pu x, mb (ev a).test fun t => if t = true then (ev b).test else pu false⟩
  | .or a b => ⟨mb (ev a).val fun x => mb (truthE x) fun t => if t = true then pu x else (ev b).val, mb (ev a).test fun t => if t = true then pu true else (ev b).test⟩
  | .ite c a b => ⟨mb (ev c).test fun t => if t = true then (ev a).val else (ev b).val, mb (ev c).test fun t => if t = true then (ev a).test else (ev b).test⟩
  | .ch o o' a b c => em (.ch o o' a b c) (mb (plOf a (ev a).val) fun x => mb (plOf b (ev b).val) fun y => mb (bopE sub o [x, y]) fun r => mb (truthE r) fun t => if t = true then mb (plOf c (ev c).val) fun z => bopE sub o' [y, z] else pu r)
  | .sl a b c => em (.sl a b c) (mb (plOf a (ev a).val) fun x => mb (plOf b (ev b).val) fun y => mb (rdP y) fun r => tst (isI r.2) (mb (plOf c (ev c).val) fun z => bopE sub (.slc true true) [x, y, z]))
  | .rv a => em (.rv a) (mb (plOf a (ev a).val) fun x => bopE sub .rev [x])
  | .f j es kw ord => em (.f j es kw ord) (mb (evPs es) fun ps => callE F j ps ord)
  | .mu o i es => em (.mu o i es) (mb (getE i) fun x0 => tst (isL x0.2) (mb (evPs es) fun ps => mb (vlPs ps) fun l => muE o i (l.map (·.2))))
  | .lc own tg it es cs elt => em (.lc own tg it es cs elt) (mb (evPs es) fun ps => mb (vlPs ps) fun l => mb (op (isem it (l.map (·.2)))) fun xs => mb (blkE (own.map (·.2)) (compE tg (own.map (·.2)) (evTs cs) (ev elt).val xs [])) fun r => pu (1, .lst r))
  | .dc own tg it es cs key val => em (.dc own tg it es cs key val) (mb (evPs es) fun ps => mb (vlPs ps) fun l => mb (op (isem it (l.map (·.2)))) fun xs => mb (blkE (own.map (·.2)) (compD tg (own.map (·.2)) (evTs cs) (ev key).val (ev val).val xs [])) fun r => pu (1, .dct r))
  | .dd es => em (.dd es) (mb (evPs es) fun ps => mb (vlPs ps) fun l => mb (op (ddS (l.map (·.2)) [])) fun r => pu (1, .dct r))
  | .mk c es => em (.mk c es) (mb (evPs es) fun ps => mb (vlPs ps) fun l => tst (decide (l.length ≤ 1000) && !(sub c).isEmpty) (pu (0, .exn c (l.map (·.2)))))
  | .lam k => em (.lam k) (pu (0, .clo k []))
  | .cw i j => em (.cw i j) (mb (getE i) fun x => tst (isClo x.2) (mb (ltr (F j [x.2])) foE))
  | .fw j e caps => em (.fw j e caps) (mb (plOf e (ev e).val) fun p => mb (vlP p) (fwE (F j) caps))
def evPs : Es → M (List Pl)
  | .nil => pu []
  | .cons e r => mb (plOf e (ev e).val) fun p => mb (evPs r) fun ps => pu (p :: ps)
def evTs : Es → M Bool
  | .nil => pu true
  | .cons e r => mb (ev e).test fun t => if t = true then evTs r else pu false
end
inductive Fl where
  | nx | rt (n : Nat) (d : D) | bk | ct
/-- a loop over items -/
def forL (bind : D → M Unit) (body : M Fl) : List D → M Fl
  | [] => pu .nx
  | x :: r => mb (bind x) fun _ => mb body fun f => match f with
    | .nx => forL bind body r
    | .ct => forL bind body r
    | .bk => pu .nx
    | .rt n d => pu (.rt n d)
def whlL (test : M Bool) (body : M Fl) : Nat → M Fl
  | 0 => no
  | k + 1 => mb test fun t => if t = true then mb body fun f => match f with
    | .nx => whlL test body k
    | .ct => whlL test body k
    | .bk => pu .nx
    | .rt n d => pu (.rt n d)
    else pu .nx
/-- several slots at once -/
def setAll : List Nat → List (Nat × D) → M Unit
  | [], [] => pu ()
  | i :: is, d :: ds => mb (setE i d) fun _ => setAll is ds
  | _, _ => no
def unpE : List Nat → D → M Unit
  | is, .tup l => bindTs is l
  | _, _ => no
/-- a slot is emptied -/
def goneE (i : Option Nat) : M Unit := fun e => .ret (.ok () (match i with | some j => e.set j none | none => e))
def bornE (i : Option Nat) (x : D) : M Unit := match i with | some j => setE j (0, x) | none => pu ()
/-- no error leaves it -/
def calmM {α : Type} (m : M α) : M α := fun e => (m e).bind fun
  | .ok a e' => .ret (.ok a e')
  | _ => .ret .no
/-- behind a try's body -/
def tryK (c : Nat) (i : Option Nat) (h : M Fl) : Rs Fl → Tr (Rs Fl)
  | .err (.exn k fs) e' => if (sub k).isEmpty || (sub c).isEmpty then .ret .no else if (sub k).contains c then (mb (bornE i (.exn k fs)) fun _ => mb (calmM h) fun f => mb (goneE i) fun _ => pu f) e' else .ret (.err (.exn k fs) e')
  | .err _ _ => .ret .no
  | r => .ret r
mutual
def evS : S → M Fl
  | .asg i e => mb (ev sub F e).val fun r => mb (setE i r) fun _ => pu .nx
  | .par is es => mb (evPs sub F es) fun ps => mb (vlPs ps) fun l => mb (setAll is l) fun _ => pu .nx
  | .unp is e => mb (ev sub F e).val fun r => mb (unpE is r.2) fun _ => pu .nx
  | .put i k e => mb (getE i) fun _ => mb (evPs sub F (.cons e (.cons k .nil))) fun ps => mb (vlPs ps) fun l => mb (muE .put i (l.map (·.2)).reverse) fun _ => pu .nx
  | .ex e => mb (plOf e (ev sub F e).val) fun _ => pu .nx
  | .ret e => mb (ev sub F e).val fun r => pu (.rt r.1 r.2)
  | .ret0 => pu (.rt 1 .non)
  | .ite c a b => mb (ev sub F c).test fun t => if t = true then evSs a else evSs b
  | .whl k c b => whlL (ev sub F c).test (evSs b) k
  | .for_ tg it es b => mb (evPs sub F es) fun ps => mb (vlPs ps) fun l => mb (op (isem it (l.map (·.2)))) fun xs => forL (bindT tg) (evSs b) xs
  | .aug i o e => mb (plOf e (ev sub F e).val) fun p => mb (bopE sub o [.v i, p]) fun r => mb (setE i r) fun _ => pu .nx
  | .brk => pu .bk
  | .cnt => pu .ct
  | .pss => pu .nx
  | .rse c es => mb (evPs sub F es) fun ps => mb (vlPs ps) fun l => tst (decide (l.length ≤ 1000) && !(sub c).isEmpty) (rz (.exn c (l.map (·.2))))
  | .try_ b c i h => fun e => (evSs b e).bind (tryK sub c i (evSs h))
def evSs : Ss → M Fl
  | .nil => pu .nx
  | .cons s r => mb (evS s) fun f => match f with
    | .nx => evSs r
    | f => pu f
end
end
/-- a def: parameters, slots, body -/
def fnOf (sub : Nat → List Nat) (F : Nat → Fn) (n : Nat) (body : Ss) : Fn := fun args => (evSs sub F body (args.map (fun d => some (0, d)) ++ List.replicate (n - args.length) none)).bind fun
  | .ok .nx _ => .ret (.ok true .non)
  | .ok (.rt n d) _ => .ret (.ok (n == 1 && top d == 1) d)
  | .err x _ => .ret (.err x)
  | _ => .ret .no
/-- a lambda's body, with what it takes from its frame -/
def capE (n : Nat) : List Nat → List D → Env
  | i :: is, d :: ds => (capE n is ds).set i (some (0, d))
  | _, _ => List.replicate n none
def lamOf (sub : Nat → List Nat) (F : Nat → Fn) (n : Nat) (caps : List Nat) (body : E) (l : List D) : Fn := fun _ => ((ev sub F body).val (capE n caps l)).bind fun
  | .ok r _ => .ret (.ok (r.1 == 1 && top r.2 == 1) r.2)
  | .err x _ => .ret (.err x)
  | .no => .ret .no
/-- a def with functions of its own: none comes in, none goes out -/
def fnC (F : Fn) : Fn := fun args => if D.noClos args = true then (F args).bind fun r => if r.noClo = true then .ret r else .ret .no else .ret .no
def withF (T : Nat → Fn) (j : Nat) (W : Fn) : Nat → Fn := fun i => if i = j then W else T i
abbrev Lam := Nat → List D → Fn
/-- a function called by what it is -/
def cloF (lam : Lam) : Fn := fun args => match args with
  | [.clo k l] => lam k l []
  | _ => .ret .no
end G

/-! G.Rep: what a datum looks like in the tracked heap; who owns what; readings by monadic values. -/
namespace G
open PySem L2

/-- the world; where the source of draws stands -/
structure Rn where
  w : World
  r : Option (Addr × Addr)
  /-- the classes: where they stand, their errors' field -/
  ca : Nat → Addr := fun _ => 0
  cf : Nat → List Str := fun _ => []
  /-- how many further numbers the source of draws has -/
  tl : Nat := 0
  /-- the function objects of this frame's lambdas -/
  lo : Nat → Addr → Addr → Option HO := fun _ _ _ => none
  /-- the name of this frame's lambdas -/
  lq : Str := ""
  /-- what the function that this frame got takes from its own frame -/
  wv : List V := []
  /-- the tables of code objects -/
  tb : List (Addr × Str) := []
/-- a dict at a: its entries (keys by what they are, keys, values), its epoch -/
def DicP (w : World) (a : Addr) (es : List (NestedKey × V × V)) (ep : Nat) (h : Heap) : Prop :=
  ∃ (o : Obj) (des : Array DictEntry), h.get? a = some o ∧ o.ExactDict ∧ o.data = .dict des ep ∧ (a == sysModules) = false ∧ es.length ≤ sizeLine ∧ (es.map (·.1)).Nodup ∧
    Paired (fun (p : NestedKey × V × V) (en : DictEntry) => RelV p.2.1 en.key ∧ RelV p.2.2 en.val ∧ en.hash = p.1.hash w) es des.toList
def DicO (w : World) (a : Addr) (es : List (NestedKey × V × V)) (ep : Nat) : HO := .ext (DicP w a es ep)
/-- at a: an error of the class at C, its dict -/
def ExG (C a : Addr) (dd : Option Addr) : HO := .ext fun h => ∃ (oe : Obj) (vs : Array Value), h.get? a = some oe ∧ oe.cls = .ref C ∧ oe.dict = dd ∧ oe.data = .fields vs
/-- at a: the set of ints that l tells -/
def SetD (w : World) (H : Hp) (a : Addr) (l : List D) : Prop := ∃ ns : List Int, iL l = some ns ∧ ns.Nodup ∧ H a = some (SetO w a (fun j => decide (j ∈ ns)) ns.length)
theorem SetD.to {w : World} {H H' : Hp} {a : Addr} {l : List D} (h : SetD w H a l) (k : ∀ o, H a = some o → H' a = some o) : SetD w H' a l := by
  obtain ⟨ns, h1, h2, h3⟩ := h
  exact ⟨ns, h1, h2, k _ h3⟩
theorem SetD.is {w : World} {H : Hp} {a : Addr} {l : List D} (h : SetD w H a l) : ∃ o, H a = some o := by
  obtain ⟨ns, h1, h2, h3⟩ := h
  exact ⟨_, h3⟩
theorem SetD.no {w : World} {H : Hp} {a : Addr} {l : List D} {p : Prop} (h : SetD w H a l) (z : H a = none) : p := by
  obtain ⟨o, e⟩ := h.is
  rw [e] at z
  cases z
section
variable (R : Rn) (H : Hp) (B : Addr → Prop)
/-- the function f, as this frame made it -/
def CloF (k : Nat) (f : Addr) : Prop := ∃ c o, R.lo k f c = some o ∧ H f = some o ∧ ¬ B f ∧ H c = some (LamX.CodeO c R.lq) ∧ ¬ B c
/-- what an error's dict holds: n fields, at dd, the values xs -/
def XDict (c n : Nat) (dd : Option Addr) (xs : List V) : Prop := (R.cf c).length = n ∧ ((n = 0 ∧ dd = none) ∨ ∃ d, dd = some d ∧ ¬ B d ∧ H d = some (.xd ((R.cf c).zip xs)))
mutual
/-- the value v is the datum d; n: how deep it is owned; L: what is owned; B: what somebody owns -/
def Rep : Nat → D → V → List Addr → Prop
  | _, .non, v, L => v = .non ∧ L = []
  | _, .bl b, v, L => v = .bl b ∧ L = []
  | _, .int i, v, L => v = .int i ∧ L = []
  | _, .str x, v, L => v = .str x ∧ L = []
  | n, .tup l, v, L => ∃ a xs, v = .ref a ∧ H a = some (.tup xs) ∧ ¬ B a ∧ Reps n l xs L
  | 0, .lst l, v, L => ∃ a xs, v = .ref a ∧ H a = some (.lst xs) ∧ ¬ B a ∧ L = [] ∧ Reps 0 l xs []
  | n + 1, .lst l, v, L => ∃ a xs L', v = .ref a ∧ H a = some (.lst xs) ∧ L = a :: L' ∧ Reps n l xs L'
  | _, .rnd, v, L => L = [] ∧ ∃ r, R.r = some r ∧ v = .ref r.1
  | _, .scr l, v, L => L = [] ∧ ∃ a, v = .ref a ∧ Rd H a (.lst (l.map V.int)) ∧ ¬ B a
  | 0, .dct l, v, L => ∃ a es ep, v = .ref a ∧ H a = some (DicO R.w a es ep) ∧ ¬ B a ∧ L = [] ∧ RepK 0 l es []
  | n + 1, .dct l, v, L => ∃ a es ep L', v = .ref a ∧ H a = some (DicO R.w a es ep) ∧ L = a :: L' ∧ RepK n l es L'
  | 0, .set l, v, L => ∃ a, v = .ref a ∧ SetD R.w H a l ∧ ¬ B a ∧ L = []
  | _ + 1, .set l, v, L => ∃ a, v = .ref a ∧ SetD R.w H a l ∧ L = [a]
  | _, .clo k cap, v, L => L = [] ∧ ∃ f, v = .ref f ∧ CloF R H B k f ∧ Reps 0 cap R.wv []
  | _, .ins c fs, v, L => L = [] ∧ ∃ a dx xs, v = .ref a ∧ H a = some (.ins (R.ca c) dx ((R.cf c).zip xs)) ∧ ¬ B a ∧ Reps 0 fs xs [] ∧ (R.cf c).length = fs.length
  | _, .exn c fs, v, L => L = [] ∧ ∃ a dd xs, v = .ref a ∧ H a = some (ExG (R.ca c) a dd) ∧ ¬ B a ∧ Reps 0 fs xs [] ∧ XDict R H B c fs.length dd xs
def RepK : Nat → List (D × D) → List (NestedKey × V × V) → List Addr → Prop
  | _, [], es, L => es = [] ∧ L = []
  | n, (k, d) :: r, es, L => ∃ nk kv v es' L1 L2, es = (nk, kv, v) :: es' ∧ L = L1 ++ L2 ∧ k.nk = some nk ∧ Rep 0 k kv [] ∧ Rep n d v L1 ∧ RepK n r es' L2
def Reps : Nat → List D → List V → List Addr → Prop
  | _, [], xs, L => xs = [] ∧ L = []
  | n, d :: r, xs, L => ∃ v vs L1 L2, xs = v :: vs ∧ L = L1 ++ L2 ∧ Rep n d v L1 ∧ Reps n r vs L2
end
end
section
variable {R : Rn} {H H' : Hp} {B B' : Addr → Prop}
theorem CloF.step {k : Nat} {f : Addr} (hx : ∀ a o, H a = some o → ¬ B a → H' a = some o) (hb : ∀ a, B' a → B a ∨ H a = none) (h : CloF R H B k f) : CloF R H' B' k f := by
  obtain ⟨c, o, h1, h2, h3, h4, h5⟩ := h
  exact ⟨c, o, h1, hx f _ h2 h3, (fun z => (hb f z).elim h3 fun q => by rw [h2] at q; cases q), hx c _ h4 h5, (fun z => (hb c z).elim h5 fun q => by rw [h4] at q; cases q)⟩
theorem XDict.step {c n : Nat} {dd : Option Addr} {xs : List V} (hx : ∀ a o, H a = some o → ¬ B a → H' a = some o) (hb : ∀ a, B' a → B a ∨ H a = none) (h : XDict R H B c n dd xs) : XDict R H' B' c n dd xs := by
  obtain ⟨h1, h2⟩ := h
  refine ⟨h1, ?_⟩
  rcases h2 with h2 | ⟨d, e, nb, q⟩
  · exact .inl h2
  · exact .inr ⟨d, e, fun z => (hb d z).elim nb fun y => (by rw [q] at y; cases y), hx d _ q nb⟩
mutual
theorem Rep.step (hx : ∀ a o, H a = some o → ¬ B a → H' a = some o) (hb : ∀ a, B' a → B a ∨ H a = none) : ∀ (n : Nat) (d : D) (v : V) (L : List Addr), (∀ a ∈ L, H' a = H a) → Rep R H B n d v L → Rep R H' B' n d v L
  | _, .non, v, L, _, h => by simpa [Rep] using h
  | _, .bl b, v, L, _, h => by simpa [Rep] using h
  | _, .int i, v, L, _, h => by simpa [Rep] using h
  | _, .str x, v, L, _, h => by simpa [Rep] using h
  | n, .tup l, v, L, hL, h => by
    simp only [Rep] at h ⊢
    obtain ⟨a, xs, rfl, e, nb, hr⟩ := h
    exact ⟨a, xs, rfl, hx a _ e nb, fun z => (hb a z).elim nb fun q => (by rw [e] at q; cases q), Reps.step hx hb n l xs L hL hr⟩
  | 0, .lst l, v, L, hL, h => by
    simp only [Rep] at h ⊢
    obtain ⟨a, xs, rfl, e, nb, rfl, hr⟩ := h
    exact ⟨a, xs, rfl, hx a _ e nb, fun z => (hb a z).elim nb fun q => (by rw [e] at q; cases q), rfl, Reps.step hx hb 0 l xs [] (fun _ z => nomatch z) hr⟩
  | n + 1, .lst l, v, L, hL, h => by
    simp only [Rep] at h ⊢
    obtain ⟨a, xs, L', rfl, e, rfl, hr⟩ := h
    exact ⟨a, xs, L', rfl, (hL a List.mem_cons_self).trans e, rfl, Reps.step hx hb n l xs L' (fun b hb => hL b (List.mem_cons_of_mem _ hb)) hr⟩
  | _, .rnd, v, L, _, h => by simpa [Rep] using h
  | _, .scr l, v, L, _, h => by
    simp only [Rep] at h ⊢
    obtain ⟨rfl, a, rfl, e, nb⟩ := h
    refine ⟨rfl, a, rfl, ?_, fun z => (hb a z).elim nb fun q => ?_⟩
    · rcases e with e | ⟨o, e⟩
      · exact .inl (hx a _ e nb)
      · exact .inr ⟨o, hx a _ e nb⟩
    · rcases e with e | ⟨o, e⟩ <;> (rw [e] at q; cases q)
  | 0, .dct l, v, L, hL, h => by
    simp only [Rep] at h ⊢
    obtain ⟨a, es, ep, rfl, e, nb, rfl, hr⟩ := h
    exact ⟨a, es, ep, rfl, hx a _ e nb, fun z => (hb a z).elim nb fun q => (by rw [e] at q; cases q), rfl, RepK.step hx hb 0 l es [] (fun _ z => nomatch z) hr⟩
  | n + 1, .dct l, v, L, hL, h => by
    simp only [Rep] at h ⊢
    obtain ⟨a, es, ep, L', rfl, e, rfl, hr⟩ := h
    exact ⟨a, es, ep, L', rfl, (hL a List.mem_cons_self).trans e, rfl, RepK.step hx hb n l es L' (fun b hb => hL b (List.mem_cons_of_mem _ hb)) hr⟩
  | 0, .set l, v, L, _, h => by
    simp only [Rep] at h ⊢
    obtain ⟨a, rfl, e, nb, rfl⟩ := h
    exact ⟨a, rfl, e.to fun o q => hx a o q nb, fun z => (hb a z).elim nb fun q => e.no q, rfl⟩
  | n + 1, .set l, v, L, hL, h => by
    simp only [Rep] at h ⊢
    obtain ⟨a, rfl, e, rfl⟩ := h
    exact ⟨a, rfl, e.to fun o q => (hL a List.mem_cons_self).trans q, rfl⟩
  | n, .ins c fs, v, L, hL, h => by
    simp only [Rep] at h ⊢
    obtain ⟨rfl, a, dx, xs, rfl, e, nb, hr, hl⟩ := h
    exact ⟨rfl, a, dx, xs, rfl, hx a _ e nb, fun z => (hb a z).elim nb fun q => (by rw [e] at q; cases q), Reps.step hx hb 0 fs xs [] (fun _ z => nomatch z) hr, hl⟩
  | n, .exn c fs, v, L, hL, h => by
    simp only [Rep] at h ⊢
    obtain ⟨rfl, a, dd, xs, rfl, e, nb, hr, hd⟩ := h
    exact ⟨rfl, a, dd, xs, rfl, hx a _ e nb, fun z => (hb a z).elim nb fun q => (by rw [e] at q; cases q), Reps.step hx hb 0 fs xs [] (fun _ z => nomatch z) hr, hd.step hx hb⟩
  | _, .clo _ cap, v, L, _, h => by
    simp only [Rep] at h ⊢
    obtain ⟨rfl, f, rfl, c, hr⟩ := h
    exact ⟨rfl, f, rfl, c.step hx hb, Reps.step hx hb 0 cap R.wv [] (fun _ z => nomatch z) hr⟩
theorem RepK.step (hx : ∀ a o, H a = some o → ¬ B a → H' a = some o) (hb : ∀ a, B' a → B a ∨ H a = none) : ∀ (n : Nat) (ds : List (D × D)) (es : List (NestedKey × V × V)) (L : List Addr), (∀ a ∈ L, H' a = H a) → RepK R H B n ds es L → RepK R H' B' n ds es L
  | _, [], es, L, _, h => by simpa [RepK] using h
  | n, (k, d) :: r, es, L, hL, h => by
    simp only [RepK] at h ⊢
    obtain ⟨nk, kv, v, es', L1, L2, rfl, rfl, hk, h0, h1, h2⟩ := h
    exact ⟨nk, kv, v, es', L1, L2, rfl, rfl, hk, Rep.step hx hb 0 k kv [] (fun _ z => nomatch z) h0, Rep.step hx hb n d v L1 (fun a z => hL a (List.mem_append_left _ z)) h1, RepK.step hx hb n r es' L2 (fun a z => hL a (List.mem_append_right _ z)) h2⟩
theorem Reps.step (hx : ∀ a o, H a = some o → ¬ B a → H' a = some o) (hb : ∀ a, B' a → B a ∨ H a = none) : ∀ (n : Nat) (ds : List D) (vs : List V) (L : List Addr), (∀ a ∈ L, H' a = H a) → Reps R H B n ds vs L → Reps R H' B' n ds vs L
  | _, [], vs, L, _, h => by simpa [Reps] using h
  | n, d :: r, vs, L, hL, h => by
    simp only [Reps] at h ⊢
    obtain ⟨v, vs', L1, L2, rfl, rfl, h1, h2⟩ := h
    exact ⟨v, vs', L1, L2, rfl, rfl, Rep.step hx hb n d v L1 (fun a z => hL a (List.mem_append_left _ z)) h1, Reps.step hx hb n r vs' L2 (fun a z => hL a (List.mem_append_right _ z)) h2⟩
end
mutual
/-- what is owned is given away -/
theorem Rep.frz : ∀ (n : Nat) (d : D) (v : V) (L : List Addr), (∀ a, B' a → (B a ∨ H a = none) ∧ a ∉ L) → Rep R H B n d v L → Rep R H B' 0 d v []
  | _, .non, v, L, _, h => by simp only [Rep] at h ⊢; exact ⟨h.1, trivial⟩
  | _, .bl b, v, L, _, h => by simp only [Rep] at h ⊢; exact ⟨h.1, trivial⟩
  | _, .int i, v, L, _, h => by simp only [Rep] at h ⊢; exact ⟨h.1, trivial⟩
  | _, .str x, v, L, _, h => by simp only [Rep] at h ⊢; exact ⟨h.1, trivial⟩
  | n, .tup l, v, L, hb, h => by
    simp only [Rep] at h ⊢
    obtain ⟨a, xs, rfl, e, nb, hr⟩ := h
    exact ⟨a, xs, rfl, e, fun z => (hb a z).1.elim nb fun q => (by rw [e] at q; cases q), Reps.frz n l xs L hb hr⟩
  | 0, .lst l, v, L, hb, h => by
    simp only [Rep] at h ⊢
    obtain ⟨a, xs, rfl, e, nb, rfl, hr⟩ := h
    exact ⟨a, xs, rfl, e, fun z => (hb a z).1.elim nb fun q => (by rw [e] at q; cases q), trivial, Reps.frz 0 l xs [] hb hr⟩
  | n + 1, .lst l, v, L, hb, h => by
    simp only [Rep] at h ⊢
    obtain ⟨a, xs, L', rfl, e, rfl, hr⟩ := h
    exact ⟨a, xs, rfl, e, fun z => (hb a z).2 List.mem_cons_self, trivial, Reps.frz n l xs L' (fun b z => ⟨(hb b z).1, fun q => (hb b z).2 (List.mem_cons_of_mem _ q)⟩) hr⟩
  | _, .rnd, v, L, _, h => by simp only [Rep] at h ⊢; exact ⟨trivial, h.2⟩
  | _, .scr l, v, L, hb, h => by
    simp only [Rep] at h ⊢
    obtain ⟨rfl, a, rfl, e, nb⟩ := h
    refine ⟨trivial, a, rfl, e, fun z => (hb a z).1.elim nb fun q => ?_⟩
    rcases e with e | ⟨o, e⟩ <;> (rw [e] at q; cases q)
  | 0, .dct l, v, L, hb, h => by
    simp only [Rep] at h ⊢
    obtain ⟨a, es, ep, rfl, e, nb, rfl, hr⟩ := h
    exact ⟨a, es, ep, rfl, e, fun z => (hb a z).1.elim nb fun q => (by rw [e] at q; cases q), trivial, RepK.frz 0 l es [] hb hr⟩
  | n + 1, .dct l, v, L, hb, h => by
    simp only [Rep] at h ⊢
    obtain ⟨a, es, ep, L', rfl, e, rfl, hr⟩ := h
    exact ⟨a, es, ep, rfl, e, fun z => (hb a z).2 List.mem_cons_self, trivial, RepK.frz n l es L' (fun b z => ⟨(hb b z).1, fun q => (hb b z).2 (List.mem_cons_of_mem _ q)⟩) hr⟩
  | 0, .set l, v, L, hb, h => by
    simp only [Rep] at h ⊢
    obtain ⟨a, rfl, e, nb, rfl⟩ := h
    exact ⟨a, rfl, e, fun z => (hb a z).1.elim nb fun q => e.no q, trivial⟩
  | n + 1, .set l, v, L, hb, h => by
    simp only [Rep] at h ⊢
    obtain ⟨a, rfl, e, rfl⟩ := h
    exact ⟨a, rfl, e, fun z => (hb a z).2 List.mem_cons_self, trivial⟩
  | n, .ins c fs, v, L, hb, h => by
    simp only [Rep] at h ⊢
    obtain ⟨rfl, a, dx, xs, rfl, e, nb, hr, hl⟩ := h
    exact ⟨trivial, a, dx, xs, rfl, e, fun z => (hb a z).1.elim nb fun q => (by rw [e] at q; cases q), Reps.frz 0 fs xs [] (fun a z => ⟨(hb a z).1, fun q => nomatch q⟩) hr, hl⟩
  | n, .exn c fs, v, L, hb, h => by
    simp only [Rep] at h ⊢
    obtain ⟨rfl, a, dd, xs, rfl, e, nb, hr, hd⟩ := h
    exact ⟨trivial, a, dd, xs, rfl, e, fun z => (hb a z).1.elim nb fun q => (by rw [e] at q; cases q), Reps.frz 0 fs xs [] (fun a z => ⟨(hb a z).1, fun q => nomatch q⟩) hr, hd.step (fun _ _ e _ => e) fun a z => (hb a z).1⟩
  | _, .clo _ cap, v, L, hb, h => by
    simp only [Rep] at h ⊢
    obtain ⟨rfl, f, rfl, c, hr⟩ := h
    exact ⟨trivial, f, rfl, c.step (fun _ _ e _ => e) fun a z => (hb a z).1, Reps.frz 0 cap R.wv [] (fun a z => ⟨(hb a z).1, fun q => nomatch q⟩) hr⟩
theorem RepK.frz : ∀ (n : Nat) (ds : List (D × D)) (es : List (NestedKey × V × V)) (L : List Addr), (∀ a, B' a → (B a ∨ H a = none) ∧ a ∉ L) → RepK R H B n ds es L → RepK R H B' 0 ds es []
  | _, [], es, L, _, h => by simp only [RepK] at h ⊢; exact ⟨h.1, trivial⟩
  | n, (k, d) :: r, es, L, hb, h => by
    simp only [RepK] at h ⊢
    obtain ⟨nk, kv, v, es', L1, L2, rfl, rfl, hk, h0, h1, h2⟩ := h
    exact ⟨nk, kv, v, es', [], [], rfl, rfl, hk, Rep.frz 0 k kv [] (fun a z => ⟨(hb a z).1, fun q => nomatch q⟩) h0, Rep.frz n d v L1 (fun a z => ⟨(hb a z).1, fun q => (hb a z).2 (List.mem_append_left _ q)⟩) h1,
      RepK.frz n r es' L2 (fun a z => ⟨(hb a z).1, fun q => (hb a z).2 (List.mem_append_right _ q)⟩) h2⟩
theorem Reps.frz : ∀ (n : Nat) (ds : List D) (vs : List V) (L : List Addr), (∀ a, B' a → (B a ∨ H a = none) ∧ a ∉ L) → Reps R H B n ds vs L → Reps R H B' 0 ds vs []
  | _, [], vs, L, _, h => by simp only [Reps] at h ⊢; exact ⟨h.1, trivial⟩
  | n, d :: r, vs, L, hb, h => by
    simp only [Reps] at h ⊢
    obtain ⟨v, vs', L1, L2, rfl, rfl, h1, h2⟩ := h
    exact ⟨v, vs', [], [], rfl, rfl, Rep.frz n d v L1 (fun a z => ⟨(hb a z).1, fun q => (hb a z).2 (List.mem_append_left _ q)⟩) h1, Reps.frz n r vs' L2 (fun a z => ⟨(hb a z).1, fun q => (hb a z).2 (List.mem_append_right _ q)⟩) h2⟩
end
mutual
theorem Rep.zero : ∀ (d : D) (v : V) (L : List Addr), Rep R H B 0 d v L → L = []
  | .non, v, L, h => by simp only [Rep] at h; exact h.2
  | .bl b, v, L, h => by simp only [Rep] at h; exact h.2
  | .int i, v, L, h => by simp only [Rep] at h; exact h.2
  | .str x, v, L, h => by simp only [Rep] at h; exact h.2
  | .tup l, v, L, h => by
    simp only [Rep] at h
    obtain ⟨a, xs, rfl, e, nb, hr⟩ := h
    exact Reps.zero l xs L hr
  | .lst l, v, L, h => by
    simp only [Rep] at h
    obtain ⟨a, xs, rfl, e, nb, rfl, hr⟩ := h
    rfl
  | .rnd, v, L, h => by simp only [Rep] at h; exact h.1
  | .scr _, v, L, h => by simp only [Rep] at h; exact h.1
  | .dct l, v, L, h => by
    simp only [Rep] at h
    obtain ⟨a, es, ep, rfl, e, nb, rfl, hr⟩ := h
    rfl
  | .set _, _, _, h => by
    simp only [Rep] at h
    obtain ⟨a, rfl, e, nb, rfl⟩ := h
    rfl
  | .ins _ _, _, _, h => by simp only [Rep] at h; exact h.1
  | .exn _ _, _, _, h => by simp only [Rep] at h; exact h.1
  | .clo _ _, _, _, h => by simp only [Rep] at h; exact h.1
theorem RepK.zero : ∀ (ds : List (D × D)) (es : List (NestedKey × V × V)) (L : List Addr), RepK R H B 0 ds es L → L = []
  | [], es, L, h => by simp only [RepK] at h; exact h.2
  | (k, d) :: r, es, L, h => by
    simp only [RepK] at h
    obtain ⟨nk, kv, v, es', L1, L2, rfl, rfl, hk, h0, h1, h2⟩ := h
    rw [Rep.zero d v L1 h1, RepK.zero r es' L2 h2]
    rfl
theorem Reps.zero : ∀ (ds : List D) (vs : List V) (L : List Addr), Reps R H B 0 ds vs L → L = []
  | [], vs, L, h => by simp only [Reps] at h; exact h.2
  | d :: r, vs, L, h => by
    simp only [Reps] at h
    obtain ⟨v, vs', L1, L2, rfl, rfl, h1, h2⟩ := h
    rw [Rep.zero d v L1 h1, Reps.zero r vs' L2 h2]
    rfl
end
mutual
/-- what cannot change is the same at any depth, whoever owns what -/
theorem Rep.fixed : ∀ (d : D) (n : Nat) (v : V) (L : List Addr), d.fix = true → Rep R H B n d v L → L = [] ∧ ∀ m, Rep R H B m d v []
  | .non, n, v, L, _, h => by simp only [Rep] at h; exact ⟨h.2, fun m => by simp only [Rep]; exact ⟨h.1, trivial⟩⟩
  | .bl b, n, v, L, _, h => by simp only [Rep] at h; exact ⟨h.2, fun m => by simp only [Rep]; exact ⟨h.1, trivial⟩⟩
  | .int i, n, v, L, _, h => by simp only [Rep] at h; exact ⟨h.2, fun m => by simp only [Rep]; exact ⟨h.1, trivial⟩⟩
  | .str x, n, v, L, _, h => by simp only [Rep] at h; exact ⟨h.2, fun m => by simp only [Rep]; exact ⟨h.1, trivial⟩⟩
  | .tup l, n, v, L, f, h => by
    simp only [Rep] at h
    simp only [D.fix] at f
    obtain ⟨a, xs, rfl, e, nb, hr⟩ := h
    obtain ⟨z, k⟩ := Reps.fixed l n xs L f hr
    exact ⟨z, fun m => by simp only [Rep]; exact ⟨a, xs, rfl, e, nb, k m⟩⟩
  | .rnd, n, v, L, _, h => by simp only [Rep] at h; exact ⟨h.1, fun m => by simp only [Rep]; exact ⟨trivial, h.2⟩⟩
  | .scr _, n, v, L, _, h => by simp only [Rep] at h; exact ⟨h.1, fun m => by simp only [Rep]; exact ⟨trivial, h.2⟩⟩
  | .lst _, _, _, _, f, h => by simp [D.fix] at f
  | .dct _, _, _, _, f, h => by simp [D.fix] at f
  | .set _, _, _, _, f, h => by simp [D.fix] at f
  | .ins _ _, _, _, _, f, h => by simp [D.fix] at f
  | .exn _ _, _, _, _, f, h => by simp [D.fix] at f
  | .clo _ _, _, _, _, f, h => by simp [D.fix] at f
theorem Reps.fixed : ∀ (ds : List D) (n : Nat) (vs : List V) (L : List Addr), D.fixs ds = true → Reps R H B n ds vs L → L = [] ∧ ∀ m, Reps R H B m ds vs []
  | [], n, vs, L, _, h => by simp only [Reps] at h; exact ⟨h.2, fun m => by simp only [Reps]; exact ⟨h.1, trivial⟩⟩
  | d :: r, n, vs, L, f, h => by
    simp only [Reps] at h
    simp only [D.fixs, Bool.and_eq_true] at f
    obtain ⟨v, vs', L1, L2, rfl, rfl, h1, h2⟩ := h
    obtain ⟨z1, k1⟩ := Rep.fixed d n v L1 f.1 h1
    obtain ⟨z2, k2⟩ := Reps.fixed r n vs' L2 f.2 h2
    subst z1 z2
    exact ⟨rfl, fun m => by simp only [Reps]; exact ⟨v, vs', [], [], rfl, rfl, k1 m, k2 m⟩⟩
end
mutual
/-- what is owned is there, and may be written -/
theorem Rep.has : ∀ (n : Nat) (d : D) (v : V) (L : List Addr), Rep R H B n d v L → ∀ a ∈ L, ∃ o, H a = some o
  | _, .non, v, L, h => by simp only [Rep] at h; rw [h.2]; exact fun _ z => nomatch z
  | _, .bl b, v, L, h => by simp only [Rep] at h; rw [h.2]; exact fun _ z => nomatch z
  | _, .int i, v, L, h => by simp only [Rep] at h; rw [h.2]; exact fun _ z => nomatch z
  | _, .str x, v, L, h => by simp only [Rep] at h; rw [h.2]; exact fun _ z => nomatch z
  | n, .tup l, v, L, h => by
    simp only [Rep] at h
    obtain ⟨a, xs, rfl, e, nb, hr⟩ := h
    exact Reps.has n l xs L hr
  | 0, .lst l, v, L, h => by
    simp only [Rep] at h
    obtain ⟨a, xs, rfl, e, nb, rfl, hr⟩ := h
    exact fun _ z => nomatch z
  | n + 1, .lst l, v, L, h => by
    simp only [Rep] at h
    obtain ⟨a, xs, L', rfl, e, rfl, hr⟩ := h
    intro b hb
    rcases List.mem_cons.mp hb with rfl | hb
    · exact ⟨_, e⟩
    · exact Reps.has n l xs L' hr b hb
  | _, .rnd, v, L, h => by simp only [Rep] at h; rw [h.1]; exact fun _ z => nomatch z
  | _, .scr _, v, L, h => by simp only [Rep] at h; rw [h.1]; exact fun _ z => nomatch z
  | 0, .dct l, v, L, h => by
    simp only [Rep] at h
    obtain ⟨a, es, ep, rfl, e, nb, rfl, hr⟩ := h
    exact fun _ z => nomatch z
  | n + 1, .dct l, v, L, h => by
    simp only [Rep] at h
    obtain ⟨a, es, ep, L', rfl, e, rfl, hr⟩ := h
    intro b hb
    rcases List.mem_cons.mp hb with rfl | hb
    · exact ⟨_, e⟩
    · exact RepK.has n l es L' hr b hb
  | 0, .set _, _, _, h => by
    simp only [Rep] at h
    obtain ⟨a, rfl, e, nb, rfl⟩ := h
    exact fun _ z => nomatch z
  | n + 1, .set _, _, _, h => by
    simp only [Rep] at h
    obtain ⟨a, rfl, e, rfl⟩ := h
    intro b hb
    rw [List.mem_singleton.mp hb]
    exact e.is
  | _, .ins _ _, _, _, h => by simp only [Rep] at h; rw [h.1]; exact fun _ z => nomatch z
  | _, .exn _ _, _, _, h => by simp only [Rep] at h; rw [h.1]; exact fun _ z => nomatch z
  | _, .clo _ _, _, _, h => by simp only [Rep] at h; rw [h.1]; exact fun _ z => nomatch z
theorem RepK.has : ∀ (n : Nat) (ds : List (D × D)) (es : List (NestedKey × V × V)) (L : List Addr), RepK R H B n ds es L → ∀ a ∈ L, ∃ o, H a = some o
  | _, [], es, L, h => by simp only [RepK] at h; rw [h.2]; exact fun _ z => nomatch z
  | n, (k, d) :: r, es, L, h => by
    simp only [RepK] at h
    obtain ⟨nk, kv, v, es', L1, L2, rfl, rfl, hk, h0, h1, h2⟩ := h
    intro a ha
    rcases List.mem_append.mp ha with z | z
    · exact Rep.has n d v L1 h1 a z
    · exact RepK.has n r es' L2 h2 a z
theorem Reps.has : ∀ (n : Nat) (ds : List D) (vs : List V) (L : List Addr), Reps R H B n ds vs L → ∀ a ∈ L, ∃ o, H a = some o
  | _, [], vs, L, h => by simp only [Reps] at h; rw [h.2]; exact fun _ z => nomatch z
  | n, d :: r, vs, L, h => by
    simp only [Reps] at h
    obtain ⟨v, vs', L1, L2, rfl, rfl, h1, h2⟩ := h
    intro a ha
    rcases List.mem_append.mp ha with z | z
    · exact Rep.has n d v L1 h1 a z
    · exact Reps.has n r vs' L2 h2 a z
end
theorem Reps.length : ∀ {n : Nat} {ds : List D} {vs : List V} {L : List Addr}, Reps R H B n ds vs L → vs.length = ds.length
  | _, [], vs, L, h => by simp only [Reps] at h; rw [h.1]; rfl
  | n, d :: r, vs, L, h => by
    simp only [Reps] at h
    obtain ⟨v, vs', L1, L2, rfl, rfl, h1, h2⟩ := h
    simp [Reps.length h2]
theorem RepK.length : ∀ {n : Nat} {ds : List (D × D)} {es : List (NestedKey × V × V)} {L : List Addr}, RepK R H B n ds es L → es.length = ds.length
  | _, [], es, L, h => by simp only [RepK] at h; rw [h.1]; rfl
  | n, (k, d) :: r, es, L, h => by
    simp only [RepK] at h
    obtain ⟨nk, kv, v, es', L1, L2, rfl, rfl, hk, h0, h1, h2⟩ := h
    simp [RepK.length h2]
end
/-- the same world, but for the functions known -/
structure Sim (R S : Rn) : Prop where
  w : S.w = R.w
  r : S.r = R.r
  ca : S.ca = R.ca
  cf : S.cf = R.cf
  tl : S.tl = R.tl
  tb : S.tb = R.tb
theorem Sim.symm {R S : Rn} (h : Sim R S) : Sim S R := ⟨h.w.symm, h.r.symm, h.ca.symm, h.cf.symm, h.tl.symm, h.tb.symm⟩
theorem Sim.refl {R : Rn} : Sim R R := ⟨rfl, rfl, rfl, rfl, rfl, rfl⟩
section
variable {R S : Rn} {H : Hp} {B : Addr → Prop}
theorem XDict.sim (s : Sim R S) {c n : Nat} {dd : Option Addr} {xs : List V} (h : XDict R H B c n dd xs) : XDict S H B c n dd xs := by
  unfold XDict at h ⊢
  rw [s.cf]
  exact h
mutual
/-- what has no function in it is the same to all who share a world -/
theorem Rep.sim (s : Sim R S) : ∀ (n : Nat) (d : D) (v : V) (L : List Addr), d.noClo = true → Rep R H B n d v L → Rep S H B n d v L
  | _, .non, v, L, _, h => by simpa [Rep] using h
  | _, .bl b, v, L, _, h => by simpa [Rep] using h
  | _, .int i, v, L, _, h => by simpa [Rep] using h
  | _, .str x, v, L, _, h => by simpa [Rep] using h
  | n, .tup l, v, L, f, h => by
    simp only [Rep] at h ⊢
    simp only [D.noClo] at f
    obtain ⟨a, xs, rfl, e, nb, hr⟩ := h
    exact ⟨a, xs, rfl, e, nb, Reps.sim s n l xs L f hr⟩
  | 0, .lst l, v, L, f, h => by
    simp only [Rep] at h ⊢
    simp only [D.noClo] at f
    obtain ⟨a, xs, rfl, e, nb, rfl, hr⟩ := h
    exact ⟨a, xs, rfl, e, nb, rfl, Reps.sim s 0 l xs [] f hr⟩
  | n + 1, .lst l, v, L, f, h => by
    simp only [Rep] at h ⊢
    simp only [D.noClo] at f
    obtain ⟨a, xs, L', rfl, e, rfl, hr⟩ := h
    exact ⟨a, xs, L', rfl, e, rfl, Reps.sim s n l xs L' f hr⟩
  | _, .rnd, v, L, _, h => by simp only [Rep] at h ⊢; rw [s.r]; exact h
  | _, .scr l, v, L, _, h => by simpa [Rep] using h
  | 0, .dct l, v, L, f, h => by
    simp only [Rep] at h ⊢
    simp only [D.noClo] at f
    rw [s.w]
    obtain ⟨a, es, ep, rfl, e, nb, rfl, hr⟩ := h
    exact ⟨a, es, ep, rfl, e, nb, rfl, RepK.sim s 0 l es [] f hr⟩
  | n + 1, .dct l, v, L, f, h => by
    simp only [Rep] at h ⊢
    simp only [D.noClo] at f
    rw [s.w]
    obtain ⟨a, es, ep, L', rfl, e, rfl, hr⟩ := h
    exact ⟨a, es, ep, L', rfl, e, rfl, RepK.sim s n l es L' f hr⟩
  | 0, .set l, v, L, _, h => by simp only [Rep] at h ⊢; rw [s.w]; exact h
  | n + 1, .set l, v, L, _, h => by simp only [Rep] at h ⊢; rw [s.w]; exact h
  | n, .ins c fs, v, L, f, h => by
    simp only [Rep] at h ⊢
    simp only [D.noClo] at f
    rw [s.ca, s.cf]
    obtain ⟨rfl, a, dx, xs, rfl, e, nb, hr, hl⟩ := h
    exact ⟨rfl, a, dx, xs, rfl, e, nb, Reps.sim s 0 fs xs [] f hr, hl⟩
  | n, .exn c fs, v, L, f, h => by
    simp only [Rep] at h ⊢
    simp only [D.noClo] at f
    rw [s.ca]
    obtain ⟨rfl, a, dd, xs, rfl, e, nb, hr, hd⟩ := h
    exact ⟨rfl, a, dd, xs, rfl, e, nb, Reps.sim s 0 fs xs [] f hr, hd.sim s⟩
  | _, .clo _ _, v, L, f, h => by simp [D.noClo] at f
theorem RepK.sim (s : Sim R S) : ∀ (n : Nat) (ds : List (D × D)) (es : List (NestedKey × V × V)) (L : List Addr), D.noCloK ds = true → RepK R H B n ds es L → RepK S H B n ds es L
  | _, [], es, L, _, h => by simpa [RepK] using h
  | n, (k, d) :: r, es, L, f, h => by
    simp only [RepK] at h ⊢
    simp only [D.noCloK, Bool.and_eq_true] at f
    obtain ⟨nk, kv, v, es', L1, L2, rfl, rfl, hk, h0, h1, h2⟩ := h
    exact ⟨nk, kv, v, es', L1, L2, rfl, rfl, hk, Rep.sim s 0 k kv [] f.1.1 h0, Rep.sim s n d v L1 f.1.2 h1, RepK.sim s n r es' L2 f.2 h2⟩
theorem Reps.sim (s : Sim R S) : ∀ (n : Nat) (ds : List D) (vs : List V) (L : List Addr), D.noClos ds = true → Reps R H B n ds vs L → Reps S H B n ds vs L
  | _, [], vs, L, _, h => by simpa [Reps] using h
  | n, d :: r, vs, L, f, h => by
    simp only [Reps] at h ⊢
    simp only [D.noClos, Bool.and_eq_true] at f
    obtain ⟨v, vs', L1, L2, rfl, rfl, h1, h2⟩ := h
    exact ⟨v, vs', L1, L2, rfl, rfl, Rep.sim s n d v L1 f.1 h1, Reps.sim s n r vs' L2 f.2 h2⟩
end
end
end G

set_option maxHeartbeats 1000000
/-! G.Lam1: a lambda is made; its function object is tracked. -/
namespace G
open PySem PySem.Spec PyProof.Rows L2 LamX
/-- at f: the function object of a lambda -/
def FunO (qual : Str) (params : Arguments) (body : Expr) (scope : Scope) (cl : List (Str × Addr)) (f c : Addr) : HO := .ext fun h => ∃ (pm ctv : Value), h.get? f = some (PySem.W.kla_obj "<lambda>" (qual ++ "<lambda>") params body scope cl pm c ctv)
section
variable {X : Cx} {pins : List (Addr × Obj)} {σ : L2.St} {H : Hp} {s : Shared}
theorem funO_new {P : Program} {w : World} {H : Hp} {h : Heap} {qual : Str} {params : Arguments} {body : Expr} {scope : Scope} {cl : List (Str × Addr)} {f c : Addr} {pm ctv : Value} (e : h.get? f = some (PySem.W.kla_obj "<lambda>" (qual ++ "<lambda>") params body scope cl pm c ctv)) :
    ObjOk P w H h f (FunO qual params body scope cl f c) := ⟨⟨pm, ctv, e⟩, ⟨_, e⟩, fun h1 h2 ⟨pm, ctv, p⟩ k => ⟨pm, ctv, k _ p⟩⟩
/-- the table holds c under some place, or comes to hold it -/
theorem lam_new {T : List (Addr × Str)} {c P : Addr} {params : Arguments} {body : Expr} {scope : Scope} {pos : Pos} {E Q : Value → Shared → Prop} (I : Inv X pins σ H s) (TB : TabB X.base X.mg c P) (hcode : X.env.code = .ref c) (hm : (P, X.env.qual ++ "<lambda>") ∈ T) (hT : Tabs T H)
    (hdef : defaultsOf params X.env = ([], [])) (hfree : ∀ y ∈ scope.names, y.2 = .free → ∃ c, X.env.cells.lookup y.1 = some c)
    (old : ∀ (f c' : Addr) (s' : Shared), H c' = some (CodeO c' (X.env.qual ++ "<lambda>")) → H f = none → Inv X pins σ (upd H f (FunO X.env.qual params body scope (cloFrom X.env.cells scope.names []) f c')) s' → Q (.ref f) s')
    (new : ∀ (f c' : Addr) (ps : Array Value) (po : Pos) (s' : Shared), H P = some (.tbl ps) → TriplesOk ps.toList → H c' = none → H f = none → f ≠ c' →
      Inv X pins σ (upd (upd (upd H P (.tbl (ps ++ #[rawInt po.line, rawInt po.col, .ref c']))) c' (CodeO c' (X.env.qual ++ "<lambda>"))) f (FunO X.env.qual params body scope (cloFrom X.env.cells scope.names []) f c')) s' → Q (.ref f) s') :
    wpAny (model X.prog X.w) X.A (eval (.Lambda params body scope pos) X.env) Q E s := by
  obtain ⟨ps, hP, ht, ha⟩ := hT _ hm
  have hP : H P = some (.tbl ps) := hP
  have inB : s.heap.BuiltinsAt X.mg P := TB.bm.keeps I.bk
  have atP : s.heap.get? P = some { cls := .none, data := .fields ps } := I.hok P _ hP
  have hC : PySem.W.CodeHd s.heap c P := TB.code.keeps I.bk
  refine PySem.W.kla_eval hdef ?_
  cases hcs : codeAmong pos ps.toList with
  | some cv =>
    obtain ⟨c', rfl, isC⟩ := ha pos cv hcs
    refine PySem.W.kla_makeFunctionHit (mg := X.mg) (c := c) (P := P) (ps := ps) (closure_ok hfree) I.ok.glob (I.mod.glob.keeps I.bk) hcode hC atP ht hcs inB fun ctv h' tk keep hsz => ?_
    have J := I.kept (t' := tk) (h' := h') keep
    have fr : H h'.objs.size = none := I.hok.fresh hsz
    exact old h'.objs.size c' _ isC fr (J.laid (t' := tk) (fun b u e => Heap.get?_push_of_some _ e) (Nat.le_refl _) (funO_new (Heap.get?_push_size _ rfl)))
  | none =>
    refine PySem.W.kla_makeFunction (mg := X.mg) (c := c) (P := P) (ps := ps) (closure_ok hfree) I.ok.glob (I.mod.glob.keeps I.bk) hcode hC atP ht hcs TB.gP inB fun c' ctv h' tk keep hge hlt hrec htb => ?_
    obtain ⟨c2, oc, vs, t, e2, hoc, hd, hv⟩ := hrec
    cases e2
    have nc : H c' = none := I.hok.fresh hge
    have J := inv_table (t' := tk) (c := c') (q := X.env.qual ++ "<lambda>") (more := #[rawInt pos.line, rawInt pos.col, .ref c']) (h' := h') I hP (fun b o hb e => keep b o hb e) htb hge ⟨oc, vs, t, hoc, hd, hv⟩
    have fr : H h'.objs.size = none := I.hok.fresh (Nat.le_trans hge (Nat.le_of_lt hlt))
    exact new h'.objs.size c' ps pos _ hP ht nc fr (Nat.ne_of_gt hlt) (J.laid (t' := tk) (fun b u e => Heap.get?_push_of_some _ e) (Nat.le_refl _) (funO_new (Heap.get?_push_size _ rfl)))
end
end G

/-! G.Own: a code object is no list, no dict, no set. -/
namespace G
open PySem L2
theorem heap_size : ∀ n : Nat, ∃ h : Heap, h.objs.size = n
  | 0 => ⟨{}, rfl⟩
  | n + 1 => by
    obtain ⟨h, e⟩ := heap_size n
    exact ⟨h.push { cls := .none, data := .fields #[] }, by rw [Heap.size_push, e]⟩
theorem heap_at (a : Addr) (o : Obj) (hf : o.isFreed = false) : ∃ h : Heap, h.get? a = some o := by
  obtain ⟨h, e⟩ := heap_size a
  exact ⟨h.push o, by rw [← e]; exact Heap.get?_push_size _ hf⟩
/-- what a code object's place looks like -/
theorem codeO_at {a : Addr} {q : Str} {f : Heap → Prop} (e : HO.ext f = LamX.CodeO a q) : ∃ (h : Heap) (oc : Obj) (vs : Array Value), f h ∧ h.get? a = some oc ∧ oc.data = .fields vs := by
  unfold LamX.CodeO at e
  cases e
  obtain ⟨h, hh⟩ := heap_at a { cls := .none, data := .fields #[.none, .str q 0] } rfl
  exact ⟨h, _, _, ⟨_, _, 0, hh, rfl, rfl⟩, hh, rfl⟩
theorem lst_no {xs : List V} {a : Addr} {q : Str} : HO.lst xs ≠ LamX.CodeO a q := fun z => by
  unfold LamX.CodeO at z
  cases z
theorem tbl_no {ps : Array Value} {a : Addr} {q : Str} : HO.tbl ps ≠ LamX.CodeO a q := fun z => by
  unfold LamX.CodeO at z
  cases z
theorem dic_no {w : World} {a : Addr} {es : List (NestedKey × V × V)} {ep : Nat} {q : Str} : DicO w a es ep ≠ LamX.CodeO a q := fun z => by
  obtain ⟨h, oc, vs, ⟨o, des, h1, h2, h3, _⟩, h4, h5⟩ := codeO_at (show HO.ext (DicP w a es ep) = LamX.CodeO a q from z)
  rw [h1] at h4
  cases h4
  rw [h3] at h5
  cases h5
theorem set_no {w : World} {a : Addr} {S : Int → Bool} {n : Nat} {q : Str} : SetO w a S n ≠ LamX.CodeO a q := fun z => by
  obtain ⟨h, oc, vs, ⟨o, es, ep, t, h1, h2, h3, _⟩, h4, h5⟩ := codeO_at (show HO.ext (fun h => SetR w h a S n) = LamX.CodeO a q from z)
  rw [h1] at h4
  cases h4
  rw [h3] at h5
  cases h5
theorem funO_no {qual : Str} {params : Arguments} {body : Expr} {scope : Scope} {cl : List (Str × Addr)} {f c : Addr} (ps : Array Value) : FunO qual params body scope cl f c ≠ .tbl ps := fun z => by
  unfold FunO at z
  cases z
end G

/-! G.Good: the state of a body: slots, owners, the source of draws; readings by monadic values. -/
namespace G
open PySem L2

/-- the tables of code objects: what stands in them; no others -/
structure TabOk (H : Hp) (R : Rn) : Prop where
  t : LamX.Tabs R.tb H
  o : ∀ a ps, H a = some (.tbl ps) → a ∈ R.tb.map (·.1)
theorem TabOk.keep {H H' : Hp} {R : Rn} (h : TabOk H R) (k : ∀ a, a ∈ R.tb.map (·.1) → H' a = H a) (c : ∀ a q, H a = some (LamX.CodeO a q) → H' a = H a) (t : ∀ a ps, H' a = some (.tbl ps) → H a = some (.tbl ps)) : TabOk H' R := by
  refine ⟨fun p hp => ?_, fun a ps e => h.o a ps (t a ps e)⟩
  obtain ⟨ps, h1, h2, h3⟩ := h.t p hp
  refine ⟨ps, (k _ (List.mem_map.mpr ⟨p, hp, rfl⟩)).trans h1, h2, fun pos cv e => ?_⟩
  obtain ⟨z, e1, e2⟩ := h3 pos cv e
  exact ⟨z, e1, (c z _ e2).trans e2⟩
/-- the source of draws: all that is asked of it is that it goes on -/
def DrwOk (H : Hp) (R : Rn) : Prop := match R.r with
  | none => True
  | some r => ∃ (i m : Int) (cs tl : List Int), r.1 ≠ r.2 ∧ H r.1 = some (.lst (.ref r.2 :: .int i :: .int m :: tl.map V.int)) ∧ H r.2 = some (.lst (cs.map V.int)) ∧ 0 ≤ i ∧ 0 ≤ m ∧ m < 2147483648 ∧ cs ≠ [] ∧ cs.length ≤ 63 ∧ tl.length = R.tl
structure RndOk (H : Hp) (R : Rn) : Prop where
  d : DrwOk H R
  t : TabOk H R
def RnA (R : Rn) (a : Addr) : Prop := (∃ r, R.r = some r ∧ (a = r.1 ∨ a = r.2)) ∨ a ∈ R.tb.map (·.1)
theorem RndOk.upd {H : Hp} {R : Rn} {a : Addr} {o : HO} (h : RndOk H R) (na : ∀ b, RnA R b → b ≠ a) (ho : H a = none ∨ ∃ xs, H a = some (.lst xs)) (nt : ∀ ps, o ≠ .tbl ps) : RndOk (upd H a o) R := by
  refine ⟨?_, h.t.keep (fun b hb => upd_ne (na b (.inr hb))) (fun b q e => upd_ne fun z => ?_) fun b ps e => ?_⟩
  · have h := h.d
    unfold DrwOk at h ⊢
    cases hR : R.r with
    | none => trivial
    | some r =>
      rw [hR] at h
      obtain ⟨i, m, cs, tl, h1, h2, h3, h4⟩ := h
      exact ⟨i, m, cs, tl, h1, by rw [upd_ne (na _ (.inl ⟨r, hR, .inl rfl⟩))]; exact h2, by rw [upd_ne (na _ (.inl ⟨r, hR, .inr rfl⟩))]; exact h3, h4⟩
  · subst z
    rcases ho with q | ⟨xs, q⟩
    · rw [q] at e; cases e
    · rw [q] at e
      have z := (Option.some.inj e)
      unfold LamX.CodeO at z
      cases z
  · by_cases hb : b = a
    · subst hb
      rw [upd_same] at e
      exact absurd (Option.some.inj e) (nt ps)
    · rw [upd_ne hb] at e
      exact e
/-- what somebody owns -/
def Bn (R : Rn) (Ls : Nat → List Addr) (F : List Addr) (a : Addr) : Prop := a ∈ F ∨ (∃ i, a ∈ Ls i) ∨ RnA R a

structure Good (R : Rn) (σ : St) (e : Env) (H : Hp) (Ls : Nat → List Addr) (F : List Addr) : Prop where
  len : e.length = σ.length
  rep : ∀ i n d, e[i]? = some (some (n, d)) → ∃ v, σ[i]? = some (some v) ∧ Rep R H (Bn R Ls F) n d v (Ls i)
  nd : ∀ i, (Ls i).Nodup
  dis : ∀ i j, i ≠ j → ∀ a ∈ Ls i, a ∉ Ls j
  fr : ∀ i, ∀ a ∈ Ls i, a ∉ F
  fd : F.Nodup
  own : ∀ a, Bn R Ls F a → ∃ o, H a = some o ∧ ∀ q, o ≠ LamX.CodeO a q
  rnd : RndOk H R
  ra : ∀ a, RnA R a → a ∉ F ∧ ∀ i, a ∉ Ls i

theorem Good.has {R : Rn} {σ : St} {e : Env} {H : Hp} {Ls : Nat → List Addr} {F : List Addr} (g : Good R σ e H Ls F) : ∀ a, Bn R Ls F a → ∃ o, H a = some o := fun a h => let ⟨o, e, _⟩ := g.own a h; ⟨o, e⟩
/-- from H to H': nothing that nobody owns changes, the frame F stays, only new things come to be owned -/
structure Step (H : Hp) (B : Addr → Prop) (H' : Hp) (B' : Addr → Prop) (F : List Addr) : Prop where
  ext : ∀ a o, H a = some o → ¬ B a → H' a = some o
  frm : ∀ a ∈ F, H' a = H a
  bn : ∀ a, B' a → B a ∨ H a = none
theorem Step.refl {H : Hp} {B : Addr → Prop} {F : List Addr} : Step H B H B F := ⟨fun _ _ e _ => e, fun _ _ => rfl, fun _ h => .inl h⟩
theorem Step.trans {H H1 H2 : Hp} {B B1 B2 : Addr → Prop} {F F1 : List Addr} (s : Step H B H1 B1 F) (t : Step H1 B1 H2 B2 F1) (hF : ∀ a ∈ F, a ∈ F1) : Step H B H2 B2 F where
  ext := fun a o e nb => t.ext a o (s.ext a o e nb) fun z => (s.bn a z).elim nb fun q => by rw [e] at q; cases q
  frm := fun a h => (t.frm a (hF a h)).trans (s.frm a h)
  bn := fun a h => by
    rcases t.bn a h with z | z
    · exact s.bn a z
    · cases e : H a with
      | none => exact .inr rfl
      | some o =>
        refine .inl (Classical.byContradiction fun nb => ?_)
        rw [s.ext a o e nb] at z
        cases z
theorem Rep.by {R : Rn} {H H' : Hp} {B B' : Addr → Prop} {F : List Addr} {n : Nat} {d : D} {v : V} {L : List Addr} (s : Step H B H' B' F) (hL : ∀ a ∈ L, H' a = H a) (h : Rep R H B n d v L) : Rep R H' B' n d v L := Rep.step s.ext s.bn n d v L hL h
theorem Reps.by {R : Rn} {H H' : Hp} {B B' : Addr → Prop} {F : List Addr} {n : Nat} {d : List D} {v : List V} {L : List Addr} (s : Step H B H' B' F) (hL : ∀ a ∈ L, H' a = H a) (h : Reps R H B n d v L) : Reps R H' B' n d v L := Reps.step s.ext s.bn n d v L hL h

/-! ### what is wanted behind a value, a place, places, a test, a statement -/
/-- what is wanted of an error: the datum, the slots, the heap -/
abbrev WD := D → Value → Option Addr → St → Hp → Prop
/-- an error as the heap holds it: its class, its own dict -/
def XRep (R : Rn) (H : Hp) (B : Addr → Prop) (x : D) (cls : Value) (dd : Option Addr) : Prop := ∃ c fs vs, x = .exn c fs ∧ cls = .ref (R.ca c) ∧ Reps R H B 0 fs vs [] ∧ XDict R H B c fs.length dd vs
theorem XRep.by {R : Rn} {H H' : Hp} {B B' : Addr → Prop} {F : List Addr} {x : D} {cls : Value} {dd : Option Addr} (s : Step H B H' B' F) (h : XRep R H B x cls dd) : XRep R H' B' x cls dd := by
  obtain ⟨c, fs, vs, e1, e2, r, z⟩ := h
  exact ⟨c, fs, vs, e1, e2, Reps.by (L := []) s (fun _ z => nomatch z) r, z.step s.ext s.bn⟩
section
variable (R : Rn) (W : WD)
def ErrK (σ : St) (H : Hp) (B : Addr → Prop) (F : List Addr) (x : D) (e : Env) : Prop := ∀ H' Ls', Step H B H' (Bn R Ls' F) F → Good R σ e H' Ls' F → ∀ cls dd, XRep R H' (Bn R Ls' F) x cls dd → W x cls dd σ H'
def PostV (σ : St) (H : Hp) (B : Addr → Prop) (F : List Addr) (Q : VK) : Rs (Nat × D) → Prop
  | .ok r e => ∀ v H' Ls' Lt, Step H B H' (Bn R Ls' (Lt ++ F)) F → Good R σ e H' Ls' (Lt ++ F) → Rep R H' (Bn R Ls' (Lt ++ F)) r.1 r.2 v Lt → Q v H'
  | .err x e => ErrK R W σ H B F x e
  | .no => False
def tV (m : M (Nat × D)) : TE := fun σ H Q => ∃ e Ls F, Good R σ e H Ls F ∧ (m e).All (PostV R W σ H (Bn R Ls F) F Q)
/-- a place's value -/
def PRep (H : Hp) (B : Addr → Prop) (σ : St) : Pl → V → List Addr → Prop
  | .t n d, v, L => Rep R H B n d v L
  | .v i, v, L => L = [] ∧ σ[i]? = some (some v)
def PReps (H : Hp) (B : Addr → Prop) (σ : St) : List Pl → List V → List Addr → Prop
  | [], vs, L => vs = [] ∧ L = []
  | p :: r, vs, L => ∃ v vs' L1 L2, vs = v :: vs' ∧ L = L1 ++ L2 ∧ PRep R H B σ p v L1 ∧ PReps H B σ r vs' L2
def PostP (σ : St) (H : Hp) (B : Addr → Prop) (F : List Addr) (Q : VK) : Rs Pl → Prop
  | .ok p e => ∀ v H' Ls' Lt, Step H B H' (Bn R Ls' (Lt ++ F)) F → Good R σ e H' Ls' (Lt ++ F) → PRep R H' (Bn R Ls' (Lt ++ F)) σ p v Lt → Q v H'
  | .err x e => ErrK R W σ H B F x e
  | .no => False
def tP (m : M Pl) : TE := fun σ H Q => ∃ e Ls F, Good R σ e H Ls F ∧ (m e).All (PostP R W σ H (Bn R Ls F) F Q)
def PostA (σ : St) (H : Hp) (B : Addr → Prop) (F : List Addr) (Q : List V → Hp → Prop) : Rs (List Pl) → Prop
  | .ok p e => ∀ vs H' Ls' Lt, Step H B H' (Bn R Ls' (Lt ++ F)) F → Good R σ e H' Ls' (Lt ++ F) → PReps R H' (Bn R Ls' (Lt ++ F)) σ p vs Lt → Q vs H'
  | .err x e => ErrK R W σ H B F x e
  | .no => False
def tA (m : M (List Pl)) : TA := fun σ H Q => ∃ e Ls F, Good R σ e H Ls F ∧ (m e).All (PostA R W σ H (Bn R Ls F) F Q)
def PostT (σ : St) (H : Hp) (B : Addr → Prop) (F : List Addr) (Q : Bool → Hp → Prop) : Rs Bool → Prop
  | .ok b e => ∀ H' Ls', Step H B H' (Bn R Ls' F) F → Good R σ e H' Ls' F → Q b H'
  | .err x e => ErrK R W σ H B F x e
  | .no => False
def tT (m : M Bool) : TT := fun σ H Q => ∃ e Ls F, Good R σ e H Ls F ∧ (m e).All (PostT R W σ H (Bn R Ls F) F Q)
def PostS (H : Hp) (B : Addr → Prop) (F : List Addr) (D : Ends) : Rs Fl → Prop
  | .ok .nx e => ∀ σ' H' Ls', Step H B H' (Bn R Ls' F) F → Good R σ' e H' Ls' F → D.nx σ' H'
  | .ok .bk e => ∀ σ' H' Ls', Step H B H' (Bn R Ls' F) F → Good R σ' e H' Ls' F → D.bk σ' H'
  | .ok .ct e => ∀ σ' H' Ls', Step H B H' (Bn R Ls' F) F → Good R σ' e H' Ls' F → D.ct σ' H'
  | .ok (.rt n d) e => ∀ v σ' H' Ls' Lt, Step H B H' (Bn R Ls' (Lt ++ F)) F → Good R σ' e H' Ls' (Lt ++ F) → Rep R H' (Bn R Ls' (Lt ++ F)) n d v Lt → D.rt v H'
  | .err x e => ∀ σ' H' Ls', Step H B H' (Bn R Ls' F) F → Good R σ' e H' Ls' F → ∀ cls dd, XRep R H' (Bn R Ls' F) x cls dd → W x cls dd σ' H'
  | .no => False
def tS (m : M Fl) : TS := fun D σ H => ∃ e Ls F, Good R σ e H Ls F ∧ (m e).All (PostS R W H (Bn R Ls F) F D)
end

/-! ### one behind another -/
section
variable {R : Rn} {W : WD} {α β : Type}
theorem all_mb {m : M α} {f : α → M β} {e : Env} {P : Rs β → Prop} : (mb m f e).All P ↔ (m e).All fun r => (mk f r).All P := Tr.all_bind
theorem all_pu {a : α} {e : Env} {P : Rs α → Prop} : (pu a e).All P ↔ P (.ok a e) := Iff.rfl
/-- a place, then more -/
theorem tP_then {m : M Pl} {f : Pl → M β} {P : Rs β → Prop} {σ : St} {H : Hp} {e : Env} {Ls : Nat → List Addr} {F : List Addr} {Q : VK} (G : Good R σ e H Ls F) (h : (mb m f e).All P) (he : ∀ x e, P (.err x e) → ErrK R W σ H (Bn R Ls F) F x e) (hn : ¬ P .no)
    (k : ∀ p e' v H' Ls' Lt, (f p e').All P → Step H (Bn R Ls F) H' (Bn R Ls' (Lt ++ F)) F → Good R σ e' H' Ls' (Lt ++ F) → PRep R H' (Bn R Ls' (Lt ++ F)) σ p v Lt → Q v H') : tP R W m σ H Q := by
  refine ⟨e, Ls, F, G, (all_mb.mp h).mono fun r hr => ?_⟩
  cases r with
  | ok p e' => exact fun v H' Ls' Lt s g x => k p e' v H' Ls' Lt hr s g x
  | err x e' => exact he _ _ hr
  | no => exact hn hr
theorem tV_then {m : M (Nat × D)} {f : Nat × D → M β} {P : Rs β → Prop} {σ : St} {H : Hp} {e : Env} {Ls : Nat → List Addr} {F : List Addr} {Q : VK} (G : Good R σ e H Ls F) (h : (mb m f e).All P) (he : ∀ x e, P (.err x e) → ErrK R W σ H (Bn R Ls F) F x e) (hn : ¬ P .no)
    (k : ∀ r e' v H' Ls' Lt, (f r e').All P → Step H (Bn R Ls F) H' (Bn R Ls' (Lt ++ F)) F → Good R σ e' H' Ls' (Lt ++ F) → Rep R H' (Bn R Ls' (Lt ++ F)) r.1 r.2 v Lt → Q v H') : tV R W m σ H Q := by
  refine ⟨e, Ls, F, G, (all_mb.mp h).mono fun r hr => ?_⟩
  cases r with
  | ok p e' => exact fun v H' Ls' Lt s g x => k p e' v H' Ls' Lt hr s g x
  | err x e' => exact he _ _ hr
  | no => exact hn hr
theorem tA_then {m : M (List Pl)} {f : List Pl → M β} {P : Rs β → Prop} {σ : St} {H : Hp} {e : Env} {Ls : Nat → List Addr} {F : List Addr} {Q : List V → Hp → Prop} (G : Good R σ e H Ls F) (h : (mb m f e).All P) (he : ∀ x e, P (.err x e) → ErrK R W σ H (Bn R Ls F) F x e) (hn : ¬ P .no)
    (k : ∀ r e' v H' Ls' Lt, (f r e').All P → Step H (Bn R Ls F) H' (Bn R Ls' (Lt ++ F)) F → Good R σ e' H' Ls' (Lt ++ F) → PReps R H' (Bn R Ls' (Lt ++ F)) σ r v Lt → Q v H') : tA R W m σ H Q := by
  refine ⟨e, Ls, F, G, (all_mb.mp h).mono fun r hr => ?_⟩
  cases r with
  | ok p e' => exact fun v H' Ls' Lt s g x => k p e' v H' Ls' Lt hr s g x
  | err x e' => exact he _ _ hr
  | no => exact hn hr
theorem tT_then {m : M Bool} {f : Bool → M β} {P : Rs β → Prop} {σ : St} {H : Hp} {e : Env} {Ls : Nat → List Addr} {F : List Addr} {Q : Bool → Hp → Prop} (G : Good R σ e H Ls F) (h : (mb m f e).All P) (he : ∀ x e, P (.err x e) → ErrK R W σ H (Bn R Ls F) F x e) (hn : ¬ P .no)
    (k : ∀ b e' H' Ls', (f b e').All P → Step H (Bn R Ls F) H' (Bn R Ls' F) F → Good R σ e' H' Ls' F → Q b H') : tT R W m σ H Q := by
  refine ⟨e, Ls, F, G, (all_mb.mp h).mono fun r hr => ?_⟩
  cases r with
  | ok p e' => exact fun H' Ls' s g => k p e' H' Ls' hr s g
  | err x e' => exact he _ _ hr
  | no => exact hn hr
end

/-! ### slots -/
section
variable {R : Rn} {σ : St} {e : Env} {H : Hp} {Ls : Nat → List Addr} {F : List Addr}
def updL (Ls : Nat → List Addr) (i : Nat) (L : List Addr) : Nat → List Addr := fun j => if j = i then L else Ls j
theorem updL_same {i : Nat} {L : List Addr} : updL Ls i L i = L := by simp [updL]
theorem updL_ne {i j : Nat} {L : List Addr} (h : j ≠ i) : updL Ls i L j = Ls j := by simp [updL, h]
theorem updL_mem {i j : Nat} {L : List Addr} {a : Addr} (h : a ∈ updL Ls i L j) : (j = i ∧ a ∈ L) ∨ (j ≠ i ∧ a ∈ Ls j) := by
  by_cases e : j = i
  · subst e; rw [updL_same] at h; exact .inl ⟨rfl, h⟩
  · rw [updL_ne e] at h; exact .inr ⟨e, h⟩
/-- a temporary goes into a slot -/
theorem Good.put {Lt : List Addr} {n i : Nat} {d : D} {v : V} (g : Good R σ e H Ls (Lt ++ F)) (r : Rep R H (Bn R Ls (Lt ++ F)) n d v Lt) (hi : i < e.length) :
    Good R (σ.set i (some v)) (e.set i (some (n, d))) H (updL Ls i Lt) F ∧ Step H (Bn R Ls (Lt ++ F)) H (Bn R (updL Ls i Lt) F) F := by
  have hb : ∀ a, Bn R (updL Ls i Lt) F a → Bn R Ls (Lt ++ F) a := fun a h => by
    rcases h with h | ⟨j, h⟩ | h
    · exact .inl (List.mem_append_right _ h)
    · rcases updL_mem h with ⟨_, z⟩ | ⟨_, z⟩
      · exact .inl (List.mem_append_left _ z)
      · exact .inr (.inl ⟨j, z⟩)
    · exact .inr (.inr h)
  have st : Step H (Bn R Ls (Lt ++ F)) H (Bn R (updL Ls i Lt) F) F := ⟨fun _ _ e _ => e, fun _ _ => rfl, fun a h => .inl (hb a h)⟩
  have fd := List.nodup_append.mp g.fd
  refine ⟨⟨by simpa using g.len, fun j m d' h => ?_, fun j => ?_, fun j k hjk a ha hb' => ?_, fun j a ha hF => ?_, fd.2.1, fun a h => g.own a (hb a h), g.rnd, fun a h => ?_⟩, st⟩
  · by_cases hj : j = i
    · subst hj
      rw [List.getElem?_set_self hi] at h
      cases h
      exact ⟨v, by rw [List.getElem?_set_self (by rw [← g.len]; exact hi)], by rw [updL_same]; exact r.by st fun _ _ => rfl⟩
    · rw [List.getElem?_set_ne (Ne.symm hj)] at h
      obtain ⟨v', e1, r'⟩ := g.rep j m d' h
      exact ⟨v', by rw [List.getElem?_set_ne (Ne.symm hj)]; exact e1, by rw [updL_ne hj]; exact r'.by st fun _ _ => rfl⟩
  · by_cases hj : j = i
    · subst hj; rw [updL_same]; exact fd.1
    · rw [updL_ne hj]; exact g.nd j
  · rcases updL_mem ha with ⟨rfl, z⟩ | ⟨h1, z⟩ <;> rcases updL_mem hb' with ⟨rfl, y⟩ | ⟨h2, y⟩
    · exact hjk rfl
    · exact g.fr k a y (List.mem_append_left _ z)
    · exact g.fr j a z (List.mem_append_left _ y)
    · exact g.dis j k hjk a z y
  · rcases updL_mem ha with ⟨rfl, z⟩ | ⟨h1, z⟩
    · exact fd.2.2 a z a hF rfl
    · exact g.fr j a z (List.mem_append_right _ hF)
  · obtain ⟨h1, h2⟩ := g.ra a h
    refine ⟨fun z => h1 (List.mem_append_right _ z), fun j z => ?_⟩
    rcases updL_mem z with ⟨_, y⟩ | ⟨_, y⟩
    · exact h1 (List.mem_append_left _ y)
    · exact h2 j y
/-- a slot gives its datum away -/
theorem Good.give {n i : Nat} {d : D} (g : Good R σ e H Ls F) (hi : e[i]? = some (some (n, d))) :
    ∃ v, σ[i]? = some (some v) ∧ Good R σ (e.set i (some (0, d))) H (updL Ls i []) F ∧ Step H (Bn R Ls F) H (Bn R (updL Ls i []) F) F ∧ Rep R H (Bn R (updL Ls i []) F) 0 d v [] := by
  obtain ⟨v, e1, r⟩ := g.rep i n d hi
  have hb : ∀ a, Bn R (updL Ls i []) F a → Bn R Ls F a := fun a h => by
    rcases h with h | ⟨j, h⟩ | h
    · exact .inl h
    · rcases updL_mem h with ⟨_, z⟩ | ⟨_, z⟩
      · cases z
      · exact .inr (.inl ⟨j, z⟩)
    · exact .inr (.inr h)
  have st : Step H (Bn R Ls F) H (Bn R (updL Ls i []) F) F := ⟨fun _ _ e _ => e, fun _ _ => rfl, fun a h => .inl (hb a h)⟩
  have r0 : Rep R H (Bn R (updL Ls i []) F) 0 d v [] := Rep.frz n d v (Ls i) (fun a h => ⟨.inl (hb a h), fun z => by
    rcases h with h | ⟨j, h⟩ | h
    · exact g.fr i a z h
    · rcases updL_mem h with ⟨_, y⟩ | ⟨hj, y⟩
      · cases y
      · exact g.dis i j (Ne.symm hj) a z y
    · exact (g.ra a h).2 i z⟩) r
  have hil : i < e.length := (List.getElem?_eq_some_iff.mp hi).1
  refine ⟨v, e1, ⟨by simpa using g.len, fun j m d' h => ?_, fun j => ?_, fun j k hjk a ha hb' => ?_, fun j a ha hF => ?_, g.fd, fun a h => g.own a (hb a h), g.rnd, fun a h => ?_⟩, st, r0⟩
  · by_cases hj : j = i
    · subst hj
      rw [List.getElem?_set_self hil] at h
      cases h
      exact ⟨v, e1, by rw [updL_same]; exact r0⟩
    · rw [List.getElem?_set_ne (Ne.symm hj)] at h
      obtain ⟨v', e2, r'⟩ := g.rep j m d' h
      exact ⟨v', e2, by rw [updL_ne hj]; exact r'.by st fun _ _ => rfl⟩
  · by_cases hj : j = i
    · subst hj; rw [updL_same]; exact List.nodup_nil
    · rw [updL_ne hj]; exact g.nd j
  · rcases updL_mem ha with ⟨rfl, z⟩ | ⟨h1, z⟩ <;> rcases updL_mem hb' with ⟨rfl, y⟩ | ⟨h2, y⟩
    · exact hjk rfl
    · cases z
    · cases y
    · exact g.dis j k hjk a z y
  · rcases updL_mem ha with ⟨rfl, z⟩ | ⟨h1, z⟩
    · cases z
    · exact g.fr j a z hF
  · obtain ⟨h1, h2⟩ := g.ra a h
    refine ⟨h1, fun j z => ?_⟩
    rcases updL_mem z with ⟨_, y⟩ | ⟨_, y⟩
    · cases y
    · exact h2 j y
/-- a part of what is held apart is let go -/
theorem Good.drop {F' : List Addr} (g : Good R σ e H Ls F) (hs : ∀ a ∈ F', a ∈ F) (hd : F'.Nodup) : Good R σ e H Ls F' ∧ Step H (Bn R Ls F) H (Bn R Ls F') F' := by
  have hb : ∀ a, Bn R Ls F' a → Bn R Ls F a := fun a h => h.imp (hs a) id
  have st : Step H (Bn R Ls F) H (Bn R Ls F') F' := ⟨fun _ _ e _ => e, fun _ _ => rfl, fun a h => .inl (hb a h)⟩
  refine ⟨⟨g.len, fun i n d h => ?_, g.nd, g.dis, fun i a ha z => g.fr i a ha (hs a z), hd, fun a h => g.own a (hb a h), g.rnd, fun a h => ⟨fun z => (g.ra a h).1 (hs a z), (g.ra a h).2⟩⟩, st⟩
  obtain ⟨v, e1, r⟩ := g.rep i n d h
  exact ⟨v, e1, r.by st fun _ _ => rfl⟩
/-- the heap goes on -/
theorem Good.step {H' : Hp} {Lt : List Addr} (g : Good R σ e H Ls F) (s : Step H (Bn R Ls F) H' (Bn R Ls (Lt ++ F)) F) (hL : ∀ i, ∀ a ∈ Ls i, H' a = H a) (hr : RndOk H' R) (hd : Lt.Nodup) (hn : ∀ a ∈ Lt, H a = none ∧ ∃ o, H' a = some o ∧ ∀ q, o ≠ LamX.CodeO a q)
    (hra : ∀ a, RnA R a → ∃ o, H' a = some o ∧ ∀ q, o ≠ LamX.CodeO a q) : Good R σ e H' Ls (Lt ++ F) := by
  have nF : ∀ a ∈ Lt, ¬ Bn R Ls F a := fun a h z => by
    obtain ⟨xs, q⟩ := g.has a z
    rw [(hn a h).1] at q
    cases q
  refine ⟨g.len, fun i n d h => ?_, g.nd, g.dis, fun i a ha z => ?_, List.nodup_append.mpr ⟨hd, g.fd, fun a ha b hb e => nF a ha (.inl (by rw [e]; exact hb))⟩, fun a h => ?_, hr, fun a h => ⟨fun z => ?_, (g.ra a h).2⟩⟩
  · obtain ⟨v, e1, r⟩ := g.rep i n d h
    exact ⟨v, e1, r.by s (hL i)⟩
  · rcases List.mem_append.mp z with z | z
    · exact nF a z (.inr (.inl ⟨i, ha⟩))
    · exact g.fr i a ha z
  · rcases h with h | ⟨i, h⟩ | h
    · rcases List.mem_append.mp h with h | h
      · exact (hn a h).2
      · obtain ⟨xs, q, nq⟩ := g.own a (.inl h)
        exact ⟨xs, (s.frm a h).trans q, nq⟩
    · obtain ⟨xs, q, nq⟩ := g.own a (.inr (.inl ⟨i, h⟩))
      exact ⟨xs, (hL i a h).trans q, nq⟩
    · exact hra a h
  · rcases List.mem_append.mp z with z | z
    · exact nF a z (.inr (.inr h))
    · exact (g.ra a h).1 z
/-- a new thing, owned -/
theorem Good.newO {a : Addr} {o : HO} (g : Good R σ e H Ls F) (hn : H a = none) (nt : ∀ ps, o ≠ .tbl ps) (nc : ∀ q, o ≠ LamX.CodeO a q) : Good R σ e (upd H a o) Ls ([a] ++ F) ∧ Step H (Bn R Ls F) (upd H a o) (Bn R Ls ([a] ++ F)) F := by
  have ne : ∀ b, Bn R Ls F b → b ≠ a := fun b h z => by
    obtain ⟨ys, q⟩ := g.has b h
    rw [z, hn] at q
    cases q
  have st : Step H (Bn R Ls F) (upd H a o) (Bn R Ls ([a] ++ F)) F := by
    refine ⟨fun b u e _ => ?_, fun b h => upd_ne (ne b (.inl h)), fun b h => ?_⟩
    · rw [upd_ne fun z => by rw [z, hn] at e; cases e]; exact e
    · rcases h with h | h
      · rcases List.mem_append.mp h with h | h
        · rw [List.mem_singleton.mp h]; exact .inr hn
        · exact .inl (.inl h)
      · exact .inl (.inr h)
  refine ⟨g.step st (fun i b h => upd_ne (ne b (.inr (.inl ⟨i, h⟩)))) ?_ (by simp) (fun b h => ?_) (fun b h => ?_), st⟩
  · exact g.rnd.upd (fun b hb => ne b (.inr (.inr hb))) (.inl hn) nt
  · rw [List.mem_singleton.mp h]; exact ⟨hn, _, upd_same, nc⟩
  · obtain ⟨ys, q, nq⟩ := g.own b (.inr (.inr h))
    exact ⟨ys, by rw [upd_ne (ne b (.inr (.inr h)))]; exact q, nq⟩
/-- a new list, owned -/
theorem Good.newL {a : Addr} {xs : List V} (g : Good R σ e H Ls F) (hn : H a = none) : Good R σ e (upd H a (.lst xs)) Ls ([a] ++ F) ∧ Step H (Bn R Ls F) (upd H a (.lst xs)) (Bn R Ls ([a] ++ F)) F := g.newO hn (fun _ z => nomatch z) fun _ => lst_no
/-- a new tuple, or any new thing that nobody owns -/
theorem Good.newT {a : Addr} {o : HO} (g : Good R σ e H Ls F) (hn : H a = none) (nt : ∀ ps, o ≠ .tbl ps := by intro _ z; cases z) : Good R σ e (upd H a o) Ls F ∧ Step H (Bn R Ls F) (upd H a o) (Bn R Ls F) F := by
  have ne : ∀ b, Bn R Ls F b → b ≠ a := fun b h z => by
    obtain ⟨ys, q⟩ := g.has b h
    rw [z, hn] at q
    cases q
  have st : Step H (Bn R Ls F) (upd H a o) (Bn R Ls F) F := by
    refine ⟨fun b o e _ => ?_, fun b h => upd_ne (ne b (.inl h)), fun b h => .inl h⟩
    rw [upd_ne fun z => by rw [z, hn] at e; cases e]; exact e
  refine ⟨g.step (Lt := []) st (fun i b h => upd_ne (ne b (.inr (.inl ⟨i, h⟩)))) ?_ (by simp) (fun b h => nomatch h) (fun b h => ?_), st⟩
  · exact g.rnd.upd (fun b hb => ne b (.inr (.inr hb))) (.inl hn) nt
  · obtain ⟨ys, q, nq⟩ := g.own b (.inr (.inr h))
    exact ⟨ys, by rw [upd_ne (ne b (.inr (.inr h)))]; exact q, nq⟩
end
end G

/-! G.Place: places read, places given away; what an operation is to reach. -/
namespace G
open PySem L2
section
variable {R : Rn} {W : WD} {σ : St} {e : Env} {H : Hp} {Ls : Nat → List Addr} {F : List Addr}

/-- slots that hold something still do -/
def Kp (e e' : Env) : Prop := ∀ (i : Nat) (r : Nat × D), e[i]? = some (some r) → ∃ r' : Nat × D, e'[i]? = some (some r')
theorem getE_ok {i : Nat} {r : Nat × D} (h : e[i]? = some (some r)) : getE i e = .ret (.ok r e) := by simp [getE, h]
theorem getE_all {i : Nat} {P : Rs (Nat × D) → Prop} (h : (getE i e).All P) (hn : ¬ P .no) : ∃ r, e[i]? = some (some r) ∧ P (.ok r e) := by
  unfold getE at h
  split at h
  · rename_i r hr; exact ⟨r, hr, h⟩
  · exact absurd h hn
theorem setE_all {i : Nat} {r : Nat × D} {P : Rs Unit → Prop} (h : (setE i r e).All P) (hn : ¬ P .no) : i < e.length ∧ P (.ok () (e.set i (some r))) := by
  unfold setE at h
  split at h
  · rename_i hi; exact ⟨hi, h⟩
  · exact absurd h hn
theorem frzE_ok {i n : Nat} {d : D} (h : e[i]? = some (some (n, d))) : frzE i e = .ret (.ok (0, d) (e.set i (some (0, d)))) := by
  have hi : i < e.length := (List.getElem?_eq_some_iff.mp h).1
  have h1 : getE i e = .ret (.ok (n, d) e) := getE_ok h
  show (getE i e).bind (mk fun r => mb (setE i (0, r.2)) fun _ => pu (0, r.2)) = _
  rw [h1]
  show (setE i (0, d) e).bind (mk fun _ => pu (0, d)) = _
  unfold setE
  rw [if_pos hi]
  rfl

theorem PRep.by {H' : Hp} {B B' : Addr → Prop} {F' : List Addr} (s : Step H B H' B' F') {p : Pl} {v : V} {L : List Addr} (hL : ∀ a ∈ L, H' a = H a) (h : PRep R H B σ p v L) : PRep R H' B' σ p v L := by
  cases p with
  | t n d => exact Rep.by s hL h
  | v i => exact h
theorem PReps.by {H' : Hp} {B B' : Addr → Prop} {F' : List Addr} (s : Step H B H' B' F') : ∀ {ps : List Pl} {vs : List V} {L : List Addr}, (∀ a ∈ L, H' a = H a) → PReps R H B σ ps vs L → PReps R H' B' σ ps vs L
  | [], _, _, _, h => h
  | p :: r, _, _, hL, h => by
    obtain ⟨v, vs', L1, L2, rfl, rfl, h1, h2⟩ := h
    exact ⟨v, vs', L1, L2, rfl, rfl, h1.by s fun a z => hL a (List.mem_append_left _ z), PReps.by s (fun a z => hL a (List.mem_append_right _ z)) h2⟩
theorem some_set {i j : Nat} {r x : Nat × D} (h : e[j]? = some (some r)) : ∃ r', (e.set i (some x))[j]? = some (some r') := by
  by_cases hj : j = i
  · subst hj
    exact ⟨x, List.getElem?_set_self (List.getElem?_eq_some_iff.mp h).1⟩
  · exact ⟨r, by rw [List.getElem?_set_ne (Ne.symm hj)]; exact h⟩
/-- the list of what is held apart, in another order -/
theorem Good.perm {F' : List Addr} (g : Good R σ e H Ls F) (p : F.Perm F') : Good R σ e H Ls F' ∧ ∀ a, Bn R Ls F' a ↔ Bn R Ls F a := by
  have hb : ∀ a, Bn R Ls F' a ↔ Bn R Ls F a := fun a => by unfold Bn; rw [p.mem_iff]
  refine ⟨⟨g.len, fun i n d h => ?_, g.nd, g.dis, fun i a ha z => g.fr i a ha (p.mem_iff.mpr z), (p.nodup_iff).mp g.fd, fun a h => g.own a ((hb a).mp h), g.rnd, fun a h => ⟨fun z => (g.ra a h).1 (p.mem_iff.mpr z), (g.ra a h).2⟩⟩, hb⟩
  obtain ⟨v, e1, r⟩ := g.rep i n d h
  exact ⟨v, e1, Rep.step (fun _ _ e _ => e) (fun a z => .inl ((hb a).mp z)) n d v _ (fun _ _ => rfl) r⟩

theorem vlP_all {p : Pl} {v : V} {L1 : List Addr} {P : Rs (Nat × D) → Prop} (g : Good R σ e H Ls (L1 ++ F)) (pr : PRep R H (Bn R Ls (L1 ++ F)) σ p v L1) (h : (vlP p e).All P) (hn : ¬ P .no) :
    ∃ r e' Ls', P (.ok r e') ∧ Good R σ e' H Ls' F ∧ Step H (Bn R Ls (L1 ++ F)) H (Bn R Ls' F) F ∧ Rep R H (Bn R Ls' F) 0 r.2 v [] := by
  cases p with
  | t n d =>
    have fd := List.nodup_append.mp g.fd
    obtain ⟨g', st⟩ := g.drop (F' := F) (fun a z => List.mem_append_right _ z) fd.2.1
    refine ⟨(n, d), e, Ls, h, g', st, Rep.frz n d v L1 (fun a z => ⟨st.bn a z, fun y => ?_⟩) pr⟩
    rcases z with z | ⟨i, z⟩ | z
    · exact fd.2.2 a y a z rfl
    · exact g.fr i a z (List.mem_append_left _ y)
    · exact (g.ra a z).1 (List.mem_append_left _ y)
  | v i =>
    obtain ⟨h1, h2⟩ := pr
    subst h1
    have h' : (frzE i e).All P := h
    obtain ⟨⟨n, d⟩, h3, _⟩ := getE_all (all_mb.mp h') hn
    obtain ⟨v', e1, g', st, rp⟩ := Good.give (F := F) g h3
    rw [h2] at e1; cases e1
    rw [frzE_ok h3] at h'
    exact ⟨(0, d), _, _, h', g', st, rp⟩
theorem vlPs_all : ∀ {ps : List Pl} {vs : List V} {Lt : List Addr} {e : Env} {Ls : Nat → List Addr} {P : Rs (List (Nat × D)) → Prop}, Good R σ e H Ls (Lt ++ F) → PReps R H (Bn R Ls (Lt ++ F)) σ ps vs Lt → (vlPs ps e).All P → ¬ P .no →
    ∃ l e' Ls', P (.ok l e') ∧ Good R σ e' H Ls' F ∧ Step H (Bn R Ls (Lt ++ F)) H (Bn R Ls' F) F ∧ Reps R H (Bn R Ls' F) 0 (l.map (·.2)) vs []
  | [], vs, Lt, e, Ls, P, g, pr, h, hn => by
    obtain ⟨rfl, rfl⟩ := pr
    exact ⟨[], e, Ls, h, g, .refl, by simp [Reps]⟩
  | p :: ps, vs, Lt, e, Ls, P, g, pr, h, hn => by
    obtain ⟨v, vs', L1, L2, rfl, rfl, h1, h2⟩ := pr
    rw [List.append_assoc] at g h1 h2
    have h' : (mb (vlP p) (fun a => mb (vlPs ps) fun l => pu (a :: l)) e).All P := h
    obtain ⟨r, e1, Ls1, q1, g1, s1, r1⟩ := vlP_all (F := L2 ++ F) g h1 (all_mb.mp h') hn
    have h3 : (mb (vlPs ps) (fun l => pu (r :: l)) e1).All P := q1
    obtain ⟨l, e2, Ls2, q2, g2, s2, r2⟩ := vlPs_all g1 (PReps.by s1 (fun _ _ => rfl) h2) (all_mb.mp h3) hn
    refine ⟨r :: l, e2, Ls2, q2, g2, ?_, ?_⟩
    · rw [List.append_assoc]
      exact ⟨fun _ _ e _ => e, fun _ _ => rfl, fun a z => by
        rcases s2.bn a z with z | z
        · exact s1.bn a z
        · exact .inr z⟩
    · simp only [List.map_cons, Reps]
      exact ⟨v, vs', [], [], rfl, rfl, r1.by s2 (fun _ _ => rfl), r2⟩
/-- what is read: data and values, whoever owns them -/
def RReps (R : Rn) (H : Hp) (B : Addr → Prop) : List (Nat × D) → List V → Prop
  | [], vs => vs = []
  | r :: t, vs => ∃ v vs' L, vs = v :: vs' ∧ Rep R H B r.1 r.2 v L ∧ RReps R H B t vs'
theorem rdP_all {p : Pl} {v : V} {L1 : List Addr} {P : Rs (Nat × D) → Prop} (g : Good R σ e H Ls F) (pr : PRep R H (Bn R Ls F) σ p v L1) (h : (rdP p e).All P) (hn : ¬ P .no) : ∃ r L, P (.ok r e) ∧ Rep R H (Bn R Ls F) r.1 r.2 v L := by
  cases p with
  | t n d => exact ⟨(n, d), L1, h, pr⟩
  | v i =>
    obtain ⟨h1, h2⟩ := pr
    obtain ⟨⟨n, d⟩, h3, h4⟩ := getE_all h hn
    obtain ⟨v', e1, r⟩ := g.rep i n d h3
    rw [h2] at e1; cases e1
    exact ⟨(n, d), _, h4, r⟩
theorem rdPs_all (g : Good R σ e H Ls F) : ∀ {ps : List Pl} {vs : List V} {Lt : List Addr} {P : Rs (List (Nat × D)) → Prop}, PReps R H (Bn R Ls F) σ ps vs Lt → (rdPs ps e).All P → ¬ P .no → ∃ l, P (.ok l e) ∧ RReps R H (Bn R Ls F) l vs
  | [], vs, Lt, P, pr, h, hn => ⟨[], h, pr.1⟩
  | p :: ps, vs, Lt, P, pr, h, hn => by
    obtain ⟨v, vs', L1, L2, rfl, rfl, h1, h2⟩ := pr
    have h' : (mb (rdP p) (fun a => mb (rdPs ps) fun l => pu (a :: l)) e).All P := h
    obtain ⟨r, L, q1, r1⟩ := rdP_all g h1 (all_mb.mp h') hn
    have h3 : (mb (rdPs ps) (fun l => pu (r :: l)) e).All P := q1
    obtain ⟨l, q2, r2⟩ := rdPs_all g h2 (all_mb.mp h3) hn
    exact ⟨r :: l, q2, v, vs', L, rfl, r1, r2⟩

/-- what an operation's answer is to reach -/
def QK (R : Rn) (σ : St) (e : Env) (H : Hp) (Ls : Nat → List Addr) (F : List Addr) (n : Nat) (d : D) (Q : VK) : Prop :=
  ∀ v' H' Lt', Step H (Bn R Ls F) H' (Bn R Ls (Lt' ++ F)) F → Good R σ e H' Ls (Lt' ++ F) → Rep R H' (Bn R Ls (Lt' ++ F)) n d v' Lt' → Q v' H'
theorem QK.val {n : Nat} {d : D} {v : V} {Q : VK} (k : QK R σ e H Ls F n d Q) (g : Good R σ e H Ls F) (h : Rep R H (Bn R Ls F) n d v []) : Q v H := k v H [] .refl g h
theorem QK.int {n : Nat} {i : Int} {Q : VK} (k : QK R σ e H Ls F n (.int i) Q) (g : Good R σ e H Ls F) : Q (.int i) H := k.val g (by simp [Rep])
theorem QK.bl {n : Nat} {i : Bool} {Q : VK} (k : QK R σ e H Ls F n (.bl i) Q) (g : Good R σ e H Ls F) : Q (.bl i) H := k.val g (by simp [Rep])
theorem QK.str {n : Nat} {i : Str} {Q : VK} (k : QK R σ e H Ls F n (.str i) Q) (g : Good R σ e H Ls F) : Q (.str i) H := k.val g (by simp [Rep])
theorem QK.newL {ds : List D} {xs : List V} {Q : VK} (k : QK R σ e H Ls F 1 (.lst ds) Q) (g : Good R σ e H Ls F) (h : Reps R H (Bn R Ls F) 0 ds xs []) : ∀ p, H p = none → Q (.ref p) (upd H p (.lst xs)) := fun p hp => by
  obtain ⟨g', s⟩ := g.newL (xs := xs) hp
  refine k _ _ [p] s g' ?_
  simp only [Rep]
  exact ⟨p, xs, [], rfl, upd_same, rfl, h.by s fun _ z => nomatch z⟩
theorem QK.newT {n : Nat} {ds : List D} {xs : List V} {Q : VK} (k : QK R σ e H Ls F n (.tup ds) Q) (g : Good R σ e H Ls F) (h : Reps R H (Bn R Ls F) n ds xs []) : ∀ p, H p = none → Q (.ref p) (upd H p (.tup xs)) := fun p hp => by
  obtain ⟨g', s⟩ := g.newT (o := .tup xs) hp
  refine k _ _ [] s g' ?_
  simp only [Rep]
  exact ⟨p, xs, rfl, upd_same, (fun z => (by obtain ⟨ys, q⟩ := g.has p z; rw [hp] at q; cases q)), h.by s fun _ z => nomatch z⟩
theorem Reps.up : ∀ {n : Nat} {ds : List D} {vs : List V} {L : List Addr}, D.fixs ds = true → Reps R H (Bn R Ls F) n ds vs L → ∀ m, Reps R H (Bn R Ls F) m ds vs [] := fun f h m => (Reps.fixed _ _ _ _ f h).2 m
theorem mb_op {α β : Type} {o : Option α} {f : α → M β} {P : Rs β → Prop} (h : (mb (op o) f e).All P) (hn : ¬ P .no) : ∃ a, o = some a ∧ (f a e).All P := by
  cases o with
  | none => exact absurd h hn
  | some a => exact ⟨a, rfl, h⟩
theorem tst_all {α : Type} {b : Bool} {m : M α} {P : Rs α → Prop} (h : (tst b m e).All P) (hn : ¬ P .no) : b = true ∧ (m e).All P := by
  unfold tst at h
  split at h
  · rename_i hb; exact ⟨hb, h⟩
  · exact absurd h hn
/-- an operation on places -/
theorem bop_all {sub : Nat → List Nat} {o : B} {ps : List Pl} {vs : List V} {Lt : List Addr} {β : Type} {f : Nat × D → M β} {P : Rs β → Prop} (g : Good R σ e H Ls F) (pr : PReps R H (Bn R Ls F) σ ps vs Lt) (h : (mb (bopE sub o ps) f e).All P) (hn : ¬ P .no) :
    ∃ l d, RReps R H (Bn R Ls F) l vs ∧ (∀ r ∈ l, ok1 r.1 r.2 = true) ∧ bsem sub o (l.map (·.2)) = some d ∧ (f (bopN o d, d) e).All P := by
  have h0 : (bopE sub o ps e).All fun r => (mk f r).All P := all_mb.mp h
  unfold bopE at h0
  obtain ⟨l, h1, rr⟩ := rdPs_all g pr (all_mb.mp h0) hn
  have h1 : ((tst (okN l) (mb (op (bsem sub o (l.map (·.2)))) fun d => pu (bopN o d, d))) e).All fun r => (mk f r).All P := h1
  obtain ⟨hk, h2⟩ := tst_all h1 hn
  obtain ⟨d, hd, h3⟩ := mb_op h2 hn
  exact ⟨l, d, rr, fun r hr => List.all_eq_true.mp hk r hr, hd, h3⟩
theorem bop_run {sub : Nat → List Nat} {o : B} {ps : List Pl} {vs : List V} {Lt Lt2 : List Addr} {H0 : Hp} {B0 : Addr → Prop} {Q : VK} (g : Good R σ e H Ls (Lt ++ F)) (pr : PReps R H (Bn R Ls (Lt ++ F)) σ ps vs Lt2)
    (st : Step H0 B0 H (Bn R Ls (Lt ++ F)) F) (h : (bopE sub o ps e).All (PostV R W σ H0 B0 F Q)) :
    ∃ l d, RReps R H (Bn R Ls (Lt ++ F)) l vs ∧ (∀ r ∈ l, ok1 r.1 r.2 = true) ∧ bsem sub o (l.map (·.2)) = some d ∧ QK R σ e H Ls (Lt ++ F) (bopN o d) d Q := by
  unfold bopE at h
  obtain ⟨l, h1, rr⟩ := rdPs_all g pr (all_mb.mp h) (fun z => z)
  have h1 : ((tst (okN l) (mb (op (bsem sub o (l.map (·.2)))) fun d => pu (bopN o d, d))) e).All (PostV R W σ H0 B0 F Q) := h1
  obtain ⟨hk, h2⟩ := tst_all h1 (fun z => z)
  obtain ⟨d, hd, h3⟩ := mb_op h2 (fun z => z)
  refine ⟨l, d, rr, fun r hr => ?_, hd, fun v' H' Lt' s g' rp => ?_⟩
  · exact List.all_eq_true.mp hk r hr
  · have fd := List.nodup_append.mp g'.fd
    have fd2 := List.nodup_append.mp fd.2.1
    have sub1 : ∀ a ∈ Lt' ++ F, a ∈ Lt' ++ (Lt ++ F) := fun a z => by
      rcases List.mem_append.mp z with z | z
      · exact List.mem_append_left _ z
      · exact List.mem_append_right _ (List.mem_append_right _ z)
    have nd1 : (Lt' ++ F).Nodup := List.nodup_append.mpr ⟨fd.1, fd2.2.1, fun a ha b hb e => fd.2.2 a ha b (List.mem_append_right _ hb) e⟩
    obtain ⟨g2, s2⟩ := g'.drop sub1 nd1
    refine h3 v' H' Ls Lt' ?_ g2 (rp.by s2 fun _ _ => rfl)
    have s3 : Step H0 B0 H' (Bn R Ls (Lt' ++ (Lt ++ F))) F := st.trans s fun a z => List.mem_append_right _ z
    exact ⟨s3.ext, s3.frm, fun a z => s3.bn a (by
      rcases s2.bn a z with y | y
      · exact y
      · obtain ⟨xs, q⟩ := g2.has a z
        rw [q] at y; cases y)⟩
end
end G

set_option maxHeartbeats 1000000
/-! G.Ops1: the operations by their rules: from what the data say to what the rules ask. -/
namespace G
open PySem L2 PyProof.Rows
section
variable {R : Rn} {σ : St} {e : Env} {H : Hp} {Ls : Nat → List Addr} {F : List Addr} {B : Addr → Prop}
theorem RReps.one {l : List (Nat × D)} {vs : List V} {d : D} (h : RReps R H B l vs) (hl : l.map (·.2) = [d]) : ∃ n v L, l = [(n, d)] ∧ vs = [v] ∧ Rep R H B n d v L := by
  match l, hl with
  | [(n, d')], hl =>
    have : d' = d := by simpa using hl
    subst this
    obtain ⟨v, vs', L, rfl, r, h⟩ := h
    cases (show vs' = [] from h)
    exact ⟨n, v, L, rfl, rfl, r⟩
theorem RReps.two {l : List (Nat × D)} {vs : List V} {d1 d2 : D} (h : RReps R H B l vs) (hl : l.map (·.2) = [d1, d2]) : ∃ n1 n2 v1 v2 L1 L2, l = [(n1, d1), (n2, d2)] ∧ vs = [v1, v2] ∧ Rep R H B n1 d1 v1 L1 ∧ Rep R H B n2 d2 v2 L2 := by
  match l, hl with
  | [(n1, e1), (n2, e2)], hl =>
    have h1 : e1 = d1 ∧ e2 = d2 := by simpa using hl
    obtain ⟨rfl, rfl⟩ := h1
    obtain ⟨v, vs', L, rfl, r, v2, vs2, L2, rfl, r2, h⟩ := h
    cases (show vs2 = [] from h)
    exact ⟨n1, n2, v, v2, L, L2, rfl, rfl, r, r2⟩
theorem RReps.three {l : List (Nat × D)} {vs : List V} {d1 d2 d3 : D} (h : RReps R H B l vs) (hl : l.map (·.2) = [d1, d2, d3]) :
    ∃ n1 n2 n3 v1 v2 v3 L1 L2 L3, l = [(n1, d1), (n2, d2), (n3, d3)] ∧ vs = [v1, v2, v3] ∧ Rep R H B n1 d1 v1 L1 ∧ Rep R H B n2 d2 v2 L2 ∧ Rep R H B n3 d3 v3 L3 := by
  match l, hl with
  | [(n1, e1), (n2, e2), (n3, e3)], hl =>
    have h1 : e1 = d1 ∧ e2 = d2 ∧ e3 = d3 := by simpa using hl
    obtain ⟨rfl, rfl, rfl⟩ := h1
    obtain ⟨v, vs', L, rfl, r, v2, vs2, L2, rfl, r2, v3, vs3, L3, rfl, r3, h⟩ := h
    cases (show vs3 = [] from h)
    exact ⟨n1, n2, n3, v, v2, v3, L, L2, L3, rfl, rfl, r, r2, r3⟩
theorem b1_some {f : D → Option D} {ds : List D} {d : D} (h : b1 f ds = some d) : ∃ a, ds = [a] ∧ f a = some d := by
  match ds, h with
  | [a], h => exact ⟨a, rfl, h⟩
theorem b2_some {f : D → D → Option D} {ds : List D} {d : D} (h : b2 f ds = some d) : ∃ a b, ds = [a, b] ∧ f a b = some d := by
  match ds, h with
  | [a, b], h => exact ⟨a, b, rfl, h⟩
theorem bII_some {f : Int → Int → Option D} {ds : List D} {d : D} (h : bII f ds = some d) : ∃ a b, ds = [.int a, .int b] ∧ f a b = some d := by
  match ds, h with
  | [.int a, .int b], h => exact ⟨a, b, rfl, h⟩
theorem Rep.int {n : Nat} {i : Int} {v : V} {L : List Addr} (h : Rep R H B n (.int i) v L) : v = .int i := by simp only [Rep] at h; exact h.1
theorem Rep.bl {n : Nat} {i : Bool} {v : V} {L : List Addr} (h : Rep R H B n (.bl i) v L) : v = .bl i := by simp only [Rep] at h; exact h.1
theorem Rep.str {n : Nat} {i : Str} {v : V} {L : List Addr} (h : Rep R H B n (.str i) v L) : v = .str i := by simp only [Rep] at h; exact h.1
/-- a list that is read -/
theorem Rep.lst {n : Nat} {l : List D} {v : V} {L : List Addr} (h : Rep R H B n (.lst l) v L) (hk : ok1 n (.lst l) = true) : ∃ a xs, v = .ref a ∧ H a = some (.lst xs) ∧ Reps R H B 0 l xs [] := by
  match n, hk with
  | 0, _ =>
    simp only [Rep] at h
    obtain ⟨a, xs, rfl, e, nb, rfl, hr⟩ := h
    exact ⟨a, xs, rfl, e, hr⟩
  | 1, _ =>
    simp only [Rep] at h
    obtain ⟨a, xs, L', rfl, e, rfl, hr⟩ := h
    have z := Reps.zero l xs L' hr
    subst z
    exact ⟨a, xs, rfl, e, hr⟩
theorem Rep.tup {n : Nat} {l : List D} {v : V} {L : List Addr} (h : Rep R H B n (.tup l) v L) (hk : ok1 n (.tup l) = true) : ∃ a xs, v = .ref a ∧ H a = some (.tup xs) ∧ ¬ B a ∧ Reps R H B 0 l xs [] := by
  match n, hk with
  | 0, _ =>
    simp only [Rep] at h
    obtain ⟨a, xs, rfl, e, nb, hr⟩ := h
    have z := Reps.zero l xs L hr
    subst z
    exact ⟨a, xs, rfl, e, nb, hr⟩
  | 1, hk => exact absurd hk (by simp [ok1])
  | n + 2, hk => exact absurd hk (by simp [ok1])
theorem Reps.app : ∀ {n : Nat} {a b : List D} {xs ys : List V}, Reps R H B n a xs [] → Reps R H B n b ys [] → Reps R H B n (a ++ b) (xs ++ ys) []
  | n, [], b, xs, ys, h, k => by
    simp only [Reps] at h
    rw [h.1]
    exact k
  | n, d :: a, b, xs, ys, h, k => by
    simp only [Reps] at h
    obtain ⟨v, vs', L1, L2, rfl, e, h1, h2⟩ := h
    obtain ⟨rfl, rfl⟩ : L1 = [] ∧ L2 = [] := by simpa using e.symm
    simp only [List.cons_append, Reps]
    exact ⟨v, _, [], [], rfl, rfl, h1, Reps.app h2 k⟩
theorem Reps.nil {n : Nat} : Reps R H B n [] [] [] := by simp [Reps]
theorem Reps.cons {n : Nat} {d : D} {r : List D} {v : V} {vs : List V} (h : Rep R H B n d v []) (t : Reps R H B n r vs []) : Reps R H B n (d :: r) (v :: vs) [] := by
  simp only [Reps]
  exact ⟨v, vs, [], [], rfl, rfl, h, t⟩
theorem Reps.uncons {n : Nat} {d : D} {r : List D} {xs : List V} (h : Reps R H B n (d :: r) xs []) : ∃ v vs, xs = v :: vs ∧ Rep R H B n d v [] ∧ Reps R H B n r vs [] := by
  simp only [Reps] at h
  obtain ⟨v, vs', L1, L2, rfl, e, h1, h2⟩ := h
  obtain ⟨rfl, rfl⟩ : L1 = [] ∧ L2 = [] := by simpa using e.symm
  exact ⟨v, vs', rfl, h1, h2⟩
theorem Reps.get : ∀ {n : Nat} {ds : List D} {xs : List V} {i : Nat} {d : D}, Reps R H B n ds xs [] → ds[i]? = some d → ∃ v, xs[i]? = some v ∧ Rep R H B n d v []
  | n, [], xs, i, d, h, e => by simp at e
  | n, d' :: r, xs, 0, d, h, e => by
    obtain ⟨v, vs, rfl, h1, h2⟩ := h.uncons
    simp at e
    subst e
    exact ⟨v, rfl, h1⟩
  | n, d' :: r, xs, i + 1, d, h, e => by
    obtain ⟨v, vs, rfl, h1, h2⟩ := h.uncons
    obtain ⟨w, e1, e2⟩ := Reps.get h2 (show r[i]? = some d by simpa using e)
    exact ⟨w, by simpa using e1, e2⟩
theorem Reps.drop : ∀ {n : Nat} {ds : List D} {xs : List V} (k : Nat), Reps R H B n ds xs [] → Reps R H B n (ds.drop k) (xs.drop k) []
  | n, ds, xs, 0, h => h
  | n, [], xs, k + 1, h => by
    simp only [Reps] at h
    rw [h.1]
    simp [Reps]
  | n, d' :: r, xs, k + 1, h => by
    obtain ⟨v, vs, rfl, h1, h2⟩ := h.uncons
    exact Reps.drop k h2
theorem Reps.take : ∀ {n : Nat} {ds : List D} {xs : List V} (k : Nat), Reps R H B n ds xs [] → Reps R H B n (ds.take k) (xs.take k) []
  | n, ds, xs, 0, h => by simp [Reps]
  | n, [], xs, k + 1, h => by
    simp only [Reps] at h
    rw [h.1]
    simp [Reps]
  | n, d' :: r, xs, k + 1, h => by
    obtain ⟨v, vs, rfl, h1, h2⟩ := h.uncons
    exact Reps.cons h1 (Reps.take k h2)
theorem Reps.rev : ∀ {n : Nat} {ds : List D} {xs : List V}, Reps R H B n ds xs [] → Reps R H B n ds.reverse xs.reverse []
  | n, [], xs, h => by
    simp only [Reps] at h
    rw [h.1]
    simp [Reps]
  | n, d' :: r, xs, h => by
    obtain ⟨v, vs, rfl, h1, h2⟩ := h.uncons
    rw [List.reverse_cons, List.reverse_cons]
    exact Reps.app (Reps.rev h2) (Reps.cons h1 .nil)
theorem Reps.nil_iff {n : Nat} {ds : List D} {xs : List V} (h : Reps R H B n ds xs []) : ds = [] ↔ xs = [] := by
  have := h.length
  constructor
  · rintro rfl; exact List.eq_nil_of_length_eq_zero (by simpa using this)
  · rintro rfl; exact List.eq_nil_of_length_eq_zero (by simpa using this.symm)
theorem Rep.tup0 {n : Nat} {l : List D} {a : Addr} {xs : List V} (e : H a = some (.tup xs)) (nb : ¬ B a) (h : Reps R H B n l xs []) : Rep R H B n (.tup l) (.ref a) [] := by
  simp only [Rep]
  exact ⟨a, xs, rfl, e, nb, h⟩
theorem Reps.ints : ∀ {n : Nat} {ds : List D} {xs : List V} {is : List Int}, Reps R H B n ds xs [] → iL ds = some is → xs = is.map V.int ∧ ds = is.map D.int
  | n, [], xs, is, h, e => by
    simp only [Reps] at h
    simp only [iL, Option.some.injEq] at e
    rw [h.1, ← e]
    exact ⟨rfl, rfl⟩
  | n, d :: r, xs, is, h, e => by
    obtain ⟨v, vs, rfl, h1, h2⟩ := h.uncons
    cases d with
    | int i =>
      simp only [iL, Option.map_eq_some_iff] at e
      obtain ⟨is', e1, rfl⟩ := e
      obtain ⟨q1, q2⟩ := Reps.ints h2 e1
      rw [h1.int, q1, q2]
      exact ⟨rfl, rfl⟩
    | _ => simp [iL] at e
theorem Reps.of_ints {n : Nat} : ∀ {is : List Int}, Reps R H B n (is.map D.int) (is.map V.int) []
  | [] => .nil
  | i :: r => .cons (by simp [Rep]) Reps.of_ints
theorem Reps.bools : ∀ {n : Nat} {ds : List D} {xs : List V} {is : List Bool}, Reps R H B n ds xs [] → bL ds = some is → xs = is.map V.bl
  | n, [], xs, is, h, e => by
    simp only [Reps] at h
    simp only [bL, Option.some.injEq] at e
    rw [h.1, ← e]
    rfl
  | n, d :: r, xs, is, h, e => by
    obtain ⟨v, vs, rfl, h1, h2⟩ := h.uncons
    cases d with
    | bl i =>
      simp only [bL, Option.map_eq_some_iff] at e
      obtain ⟨is', e1, rfl⟩ := e
      rw [h1.bl, Reps.bools h2 e1]
      rfl
    | _ => simp [bL] at e
end

/-! ### values that read as data -/
section
variable {R : Rn} {X : Cx} {pins : List (Addr × Obj)} {σ : St} {H : Hp} {s : Shared} {B : Addr → Prop}
theorem Inv.tupAt (I : Inv X pins σ H s) {a : Addr} {xs : List V} (e : H a = some (.tup xs)) : ∃ its : List Value, Vals xs its ∧ IsTup s.heap a its.toArray ∧ xs.length ≤ sizeLine := by
  obtain ⟨z, its, r, p⟩ := I.hok a _ e
  exact ⟨its, r, p, z⟩
mutual
theorem Rep.reads (I : Inv X pins σ H s) : ∀ (d : D) (n : Nat) (v : V) (L : List Addr) (u : Value) (p : PyData), d.py = some p → Rep R H B n d v L → RelV v u → ∃ as, Reads s.heap u p as
  | .non, n, v, L, u, p, hp, h, r => by
    simp only [D.py, Option.some.injEq] at hp
    simp only [Rep] at h
    subst hp
    rw [h.1] at r
    cases r
    exact ⟨_, .none⟩
  | .bl b, n, v, L, u, p, hp, h, r => by
    simp only [D.py, Option.some.injEq] at hp
    subst hp
    rw [h.bl] at r
    cases r
    exact ⟨_, .bool b⟩
  | .int i, n, v, L, u, p, hp, h, r => by
    simp only [D.py, Option.some.injEq] at hp
    subst hp
    rw [h.int] at r
    obtain ⟨t, rfl⟩ := r
    exact ⟨_, .int i t⟩
  | .str x, n, v, L, u, p, hp, h, r => by
    simp only [D.py, Option.some.injEq] at hp
    subst hp
    rw [h.str] at r
    obtain ⟨t, rfl⟩ := r
    exact ⟨_, .str x t⟩
  | .tup l, n, v, L, u, p, hp, h, r => by
    simp only [D.py, Option.map_eq_some_iff] at hp
    obtain ⟨ps, hps, rfl⟩ := hp
    simp only [Rep] at h
    obtain ⟨a, xs, rfl, e, nb, hr⟩ := h
    cases r
    obtain ⟨its, rv, ⟨o, ho, hc, k, hd⟩, _⟩ := Inv.tupAt I e
    obtain ⟨as, h4⟩ := Reps.reads I l n xs L its ps hps hr rv
    exact ⟨_, .tuple ho hc hd (by simpa using h4)⟩
  | .lst l, 0, v, L, u, p, hp, h, r => by
    simp only [D.py, Option.map_eq_some_iff] at hp
    obtain ⟨ps, hps, rfl⟩ := hp
    simp only [Rep] at h
    obtain ⟨a, xs, rfl, e, nb, rfl, hr⟩ := h
    cases r
    obtain ⟨_, its, k, rv, ho⟩ := I.hok a _ e
    obtain ⟨as, h4⟩ := Reps.reads I l 0 xs [] its ps hps hr rv
    exact ⟨_, .list ho rfl rfl (by simpa using h4)⟩
  | .lst l, n + 1, v, L, u, p, hp, h, r => by
    simp only [D.py, Option.map_eq_some_iff] at hp
    obtain ⟨ps, hps, rfl⟩ := hp
    simp only [Rep] at h
    obtain ⟨a, xs, L', rfl, e, rfl, hr⟩ := h
    cases r
    obtain ⟨_, its, k, rv, ho⟩ := I.hok a _ e
    obtain ⟨as, h4⟩ := Reps.reads I l n xs L' its ps hps hr rv
    exact ⟨_, .list ho rfl rfl (by simpa using h4)⟩
  | .dct l, 0, v, L, u, p, hp, h, r => by
    simp only [D.py, Option.map_eq_some_iff] at hp
    obtain ⟨ps, hps, rfl⟩ := hp
    simp only [Rep] at h
    obtain ⟨a, es, ep, rfl, e, nb, rfl, hr⟩ := h
    cases r
    obtain ⟨⟨o, des, ho, hc, hd, _, _, _, hp⟩, _⟩ := I.hok a _ e
    obtain ⟨as, bs, h1, h2⟩ := RepK.reads I l 0 es [] des.toList ps hps hr hp
    exact ⟨_, .dict ho hc.1 hd h1 h2⟩
  | .dct l, n + 1, v, L, u, p, hp, h, r => by
    simp only [D.py, Option.map_eq_some_iff] at hp
    obtain ⟨ps, hps, rfl⟩ := hp
    simp only [Rep] at h
    obtain ⟨a, es, ep, L', rfl, e, rfl, hr⟩ := h
    cases r
    obtain ⟨⟨o, des, ho, hc, hd, _, _, _, hp⟩, _⟩ := I.hok a _ e
    obtain ⟨as, bs, h1, h2⟩ := RepK.reads I l n es L' des.toList ps hps hr hp
    exact ⟨_, .dict ho hc.1 hd h1 h2⟩
  | .set _, n, v, L, u, p, hp, h, r => by simp [D.py] at hp
  | .ins _ _, n, v, L, u, p, hp, h, r => by simp [D.py] at hp
  | .exn _ _, n, v, L, u, p, hp, h, r => by simp [D.py] at hp
  | .clo _ _, n, v, L, u, p, hp, h, r => by simp [D.py] at hp
  | .rnd, n, v, L, u, p, hp, h, r => by simp [D.py] at hp
  | .scr _, n, v, L, u, p, hp, h, r => by simp [D.py] at hp
theorem RepK.reads (I : Inv X pins σ H s) : ∀ (ds : List (D × D)) (n : Nat) (es : List (NestedKey × V × V)) (L : List Addr) (ens : List DictEntry) (ps : List (PyData × PyData)), D.pyk ds = some ps → RepK R H B n ds es L →
    Paired (fun (p : NestedKey × V × V) (en : DictEntry) => RelV p.2.1 en.key ∧ RelV p.2.2 en.val ∧ en.hash = p.1.hash R.w) es ens → ∃ as bs, ReadsAll s.heap (ens.map (·.key)) (ps.map (·.1)) as ∧ ReadsAll s.heap (ens.map (·.val)) (ps.map (·.2)) bs
  | [], n, es, L, ens, ps, hp, h, r => by
    simp only [D.pyk, Option.some.injEq] at hp
    simp only [RepK] at h
    subst hp
    rw [h.1] at r
    cases r
    exact ⟨_, _, .nil, .nil⟩
  | (k, d) :: t, n, es, L, ens, ps, hp, h, r => by
    simp only [RepK] at h
    obtain ⟨nk, kv, v, es', L1, L2, rfl, rfl, hk, h0, h1, h2⟩ := h
    simp only [D.pyk] at hp
    split at hp
    · rename_i a b c ha hb hc
      cases hp
      cases r with
      | cons r1 r2 =>
        obtain ⟨x1, q1⟩ := Rep.reads I k 0 kv [] _ a ha h0 r1.1
        obtain ⟨x2, q2⟩ := Rep.reads I d n v L1 _ b hb h1 r1.2.1
        obtain ⟨x3, x4, q3, q4⟩ := RepK.reads I t n es' L2 _ c hc h2 r2
        exact ⟨_, _, .cons q1 q3, .cons q2 q4⟩
    · cases hp
theorem Reps.reads (I : Inv X pins σ H s) : ∀ (ds : List D) (n : Nat) (vs : List V) (L : List Addr) (us : List Value) (ps : List PyData), D.pys ds = some ps → Reps R H B n ds vs L → Vals vs us → ∃ as, ReadsAll s.heap us ps as
  | [], n, vs, L, us, ps, hp, h, r => by
    simp only [D.pys, Option.some.injEq] at hp
    simp only [Reps] at h
    subst hp
    rw [h.1] at r
    cases r
    exact ⟨_, .nil⟩
  | d :: t, n, vs, L, us, ps, hp, h, r => by
    simp only [Reps] at h
    obtain ⟨v, vs', L1, L2, rfl, rfl, h1, h2⟩ := h
    simp only [D.pys] at hp
    split at hp
    · rename_i a b ha hb
      cases hp
      cases r with
      | cons r1 r2 =>
        obtain ⟨as, q1⟩ := Rep.reads I d n v L1 _ a ha h1 r1
        obtain ⟨bs, q2⟩ := Reps.reads I t n vs' L2 _ b hb h2 r2
        exact ⟨_, .cons q1 q2⟩
    · cases hp
end
end
end G

set_option maxHeartbeats 1000000
/-! G.Ops2: operators and comparisons. -/
namespace G
open PySem L2 PyProof.Rows
/-- what is known of where a body runs -/
structure Cok (X : Cx) : Prop where
  calm : X.calm = true
  un : X.A.units + 200 < cLine
  gd : X.A.guards = some []
  nd : X.N.Nodup
  own : PassesOwn (model X.prog X.w) X.A X.env X.xe
section
variable {R : Rn} {σ : St} {e : Env} {H : Hp} {Ls : Nat → List Addr} {F : List Addr} {X : Cx} {sub : Nat → List Nat}

/-- what is known at an operation -/
structure At (R : Rn) (σ : St) (e : Env) (H : Hp) (Ls : Nat → List Addr) (F : List Addr) (sub : Nat → List Nat) (o : B) (vs : List V) (Q : VK) : Prop where
  ex : ∃ l d, RReps R H (Bn R Ls F) l vs ∧ (∀ r ∈ l, ok1 r.1 r.2 = true) ∧ bsem sub o (l.map (·.2)) = some d ∧ QK R σ e H Ls F (bopN o d) d Q
  g : Good R σ e H Ls F
theorem big_ok {i : Int} (h : big i = true) : -(2 ^ 64) < i ∧ i < 2 ^ 64 := by
  have := of_decide_eq_true h
  omega
def rAddA (K : PySem.W.Frag) : R2 := fun x y H Q => rI0 (fun i j => .int (i + j)) x y H Q ∨ (∃ i j, x = .str i ∧ y = .str j ∧ i.length + j.length ≤ sizeLine ∧ Q (.str (i ++ j)) H) ∨ rCat x y H Q ∨ rCatA K x y H Q
theorem or_add : OpR X (binaryOp .Add) (rAddA X.K) := op_add.or (op_add_str.or (op_cat.or op_catA))
theorem at_add {x y : V} {Q : VK} (h : At R σ e H Ls F sub .add [x, y] Q) : rAddA X.K x y H Q := by
  obtain ⟨⟨l, d, rr, hk, hb, k⟩, g⟩ := h
  have hb : bAdd (l.map (·.2)) = some d := hb
  unfold bAdd at hb
  split at hb
  · rename_i a b hl
    cases hb
    obtain ⟨n1, n2, v1, v2, L1, L2, rfl, hv, r1, r2⟩ := rr.two hl
    cases hv
    exact .inl ⟨a, b, r1.int, r2.int, k.int g⟩
  · rename_i a b hl
    split at hb
    · rename_i hz
      cases hb
      obtain ⟨n1, n2, v1, v2, L1, L2, rfl, hv, r1, r2⟩ := rr.two hl
      cases hv
      exact .inr (.inl ⟨a, b, r1.str, r2.str, hz, k.str g⟩)
    · cases hb
  · rename_i a b hl
    split at hb
    · rename_i hz
      cases hb
      obtain ⟨n1, n2, v1, v2, L1, L2, rfl, hv, r1, r2⟩ := rr.two hl
      cases hv
      obtain ⟨p, xs, rfl, e1, q1⟩ := r1.lst (hk (n1, _) (by simp))
      obtain ⟨p', ys, rfl, e2, q2⟩ := r2.lst (hk (n2, _) (by simp))
      exact .inr (.inr (.inl ⟨p, p', xs, ys, rfl, rfl, e1, e2, by rw [q1.length, q2.length]; exact hz, k.newL g (q1.app q2)⟩))
    · cases hb
  · rename_i a b hl
    split at hb
    · rename_i hz
      cases hb
      obtain ⟨n1, n2, v1, v2, L1, L2, rfl, hv, r1, r2⟩ := rr.two hl
      cases hv
      obtain ⟨p, xs, rfl, e1, nb1, q1⟩ := r1.tup (hk (n1, _) (by simp))
      obtain ⟨p', ys, rfl, e2, nb2, q2⟩ := r2.tup (hk (n2, _) (by simp))
      have k0 : QK R σ e H Ls F 0 (.tup (a ++ b)) Q := k
      refine .inr (.inr (.inr ⟨p, p', xs, ys, rfl, rfl, .of e1, .of e2, by rw [q1.length, q2.length]; exact hz, fun z => ?_, fun z z' => ?_, fun _ _ => k0.newT g (q1.app q2)⟩))
      · have : a = [] := q1.nil_iff.mpr z
        subst this
        exact k0.val g (Rep.tup0 e2 nb2 q2)
      · have : b = [] := q2.nil_iff.mpr z'
        subst this
        rw [List.append_nil] at k0
        exact k0.val g (Rep.tup0 e1 nb1 q1)
    · cases hb
  · cases hb
/-- ints alone -/
theorem at_ii {o : B} {f : Int → Int → Option D} (ho : ∀ ds, bsem sub o ds = bII f ds) {x y : V} {Q : VK} (h : At R σ e H Ls F sub o [x, y] Q) : ∃ a b d, x = .int a ∧ y = .int b ∧ f a b = some d ∧ QK R σ e H Ls F (bopN o d) d Q ∧ Good R σ e H Ls F := by
  obtain ⟨⟨l, d, rr, hk, hb, k⟩, g⟩ := h
  rw [ho] at hb
  obtain ⟨a, b, hl, hf⟩ := bII_some hb
  obtain ⟨n1, n2, v1, v2, L1, L2, rfl, hv, r1, r2⟩ := rr.two hl
  cases hv
  exact ⟨a, b, d, r1.int, r2.int, hf, k, g⟩
theorem at_sub {x y : V} {Q : VK} (h : At R σ e H Ls F sub .sub [x, y] Q) : rI0 (fun i j => .int (i - j)) x y H Q := by
  obtain ⟨a, b, d, rfl, rfl, hf, k, g⟩ := at_ii (fun _ => rfl) h
  cases hf
  exact ⟨a, b, rfl, rfl, k.int g⟩
theorem at_fdiv {x y : V} {Q : VK} (h : At R σ e H Ls F sub .fdiv [x, y] Q) : rI CDiv (fun i j => .int (i / j)) x y H Q := by
  obtain ⟨a, b, d, rfl, rfl, hf, k, g⟩ := at_ii (fun _ => rfl) h
  split at hf
  · rename_i hc
    cases hf
    exact ⟨a, b, rfl, rfl, hc, k.int g⟩
  · cases hf
theorem at_mod {x y : V} {Q : VK} (h : At R σ e H Ls F sub .mod [x, y] Q) : rI (fun _ j => 0 < j) (fun i j => .int (i % j)) x y H Q := by
  obtain ⟨a, b, d, rfl, rfl, hf, k, g⟩ := at_ii (fun _ => rfl) h
  split at hf
  · rename_i hc
    cases hf
    exact ⟨a, b, rfl, rfl, hc, k.int g⟩
  · cases hf
theorem at_pow {x y : V} {Q : VK} (h : At R σ e H Ls F sub .pow [x, y] Q) : rI CPow (fun i j => .int (i ^ j.toNat)) x y H Q := by
  obtain ⟨a, b, d, rfl, rfl, hf, k, g⟩ := at_ii (fun _ => rfl) h
  split at hf
  · rename_i hc
    cases hf
    exact ⟨a, b, rfl, rfl, ⟨hc.1, by omega, of_decide_eq_true hc.2.2⟩, k.int g⟩
  · cases hf
def rMulA : R2 := fun x y H Q => rI CMul (fun i j => .int (i * j)) x y H Q ∨ rRep x y H Q
theorem or_mul : OpR X (binaryOp .Mult) rMulA := op_mul.or op_rep
theorem Reps.rep {B : Addr → Prop} {n : Nat} {ds : List D} {xs : List V} (h : Reps R H B n ds xs []) : ∀ m : Nat, Reps R H B n (List.replicate m ds).flatten (List.replicate m xs).flatten []
  | 0 => by simp [Reps]
  | m + 1 => by
    rw [List.replicate_succ, List.replicate_succ, List.flatten_cons, List.flatten_cons]
    exact h.app (Reps.rep h m)
theorem at_mul {x y : V} {Q : VK} (h : At R σ e H Ls F sub .mul [x, y] Q) : rMulA x y H Q := by
  obtain ⟨⟨l, d, rr, hk, hb, k⟩, g⟩ := h
  have hb : bMul (l.map (·.2)) = some d := hb
  unfold bMul at hb
  split at hb
  · rename_i a b hl
    split at hb
    · rename_i hz
      cases hb
      obtain ⟨n1, n2, v1, v2, L1, L2, rfl, hv, r1, r2⟩ := rr.two hl
      cases hv
      refine .inl ⟨a, b, r1.int, r2.int, ?_, k.int g⟩
      rcases Bool.or_eq_true_iff.mp hz with z | z
      · exact .inl (big_ok z)
      · exact .inr (big_ok z)
    · cases hb
  · rename_i a b hl
    split at hb
    · rename_i hz
      cases hb
      obtain ⟨n1, n2, v1, v2, L1, L2, rfl, hv, r1, r2⟩ := rr.two hl
      cases hv
      obtain ⟨p, xs, rfl, e1, q1⟩ := r1.lst (hk (n1, _) (by simp))
      refine .inr ⟨p, b, xs, rfl, r2.int, e1, by omega, by omega, ?_, k.newL g (q1.rep _)⟩
      have h1 : xs.length * b.toNat ≤ 1000 * 1000 := Nat.mul_le_mul (by rw [q1.length]; exact hz.2.2) (by omega)
      have h2 := sizeLine_eq
      omega
    · cases hb
  · cases hb
/-- == and != of data -/
def rEqG (neg : Bool) : R2 := fun x y H Q => ∃ (R : Rn) (B : Addr → Prop) (n1 : Nat) (d1 : D) (L1 : List Addr) (n2 : Nat) (d2 : D) (L2 : List Addr) (b : Bool), Rep R H B n1 d1 x L1 ∧ Rep R H B n2 d2 y L2 ∧ eqD d1 d2 = some b ∧ Q (.bl (if neg = true then !b else b)) H
theorem eqD_some {a b : D} {c : Bool} (h : eqD a b = some c) : ∃ x y, a.py = some x ∧ b.py = some y ∧ x.plain = true ∧ y.plain = true ∧ x.depth ≤ 64 ∧ y.depth ≤ 64 ∧ PyData.eqv x y = c := by
  unfold eqD at h
  split at h
  · rename_i x y hx hy
    split at h
    · rename_i hp
      cases h
      simp only [pl, Bool.and_eq_true, decide_eq_true_eq] at hp
      exact ⟨x, y, hx, hy, hp.1.1, hp.2.1, hp.1.2, hp.2.2, rfl⟩
    · cases h
  · cases h
theorem or_eq (C : Cok X) : OpR X (compareOp .Eq) (rEqG false) := by
  intro pins s σ H x y v u Q I rx ry h
  obtain ⟨R, B, n1, d1, L1, n2, d2, L2, b, h1, h2, hb, q⟩ := h
  obtain ⟨p1, p2, e1, e2, l1, l2, z1, z2, rfl⟩ := eqD_some hb
  obtain ⟨as, r1⟩ := Rep.reads I d1 n1 x L1 v p1 e1 h1 rx
  obtain ⟨bs, r2⟩ := Rep.reads I d2 n2 y L2 u p2 e2 h2 ry
  have hu := C.un
  exact SeqAt.eq_plain r1 r2 l1 l2 (by omega) ⟨.bl _, H, I, rfl, q⟩
theorem or_ne (C : Cok X) : OpR X (compareOp .NotEq) (rEqG true) := by
  intro pins s σ H x y v u Q I rx ry h
  obtain ⟨R, B, n1, d1, L1, n2, d2, L2, b, h1, h2, hb, q⟩ := h
  obtain ⟨p1, p2, e1, e2, l1, l2, z1, z2, rfl⟩ := eqD_some hb
  obtain ⟨as, r1⟩ := Rep.reads I d1 n1 x L1 v p1 e1 h1 rx
  obtain ⟨bs, r2⟩ := Rep.reads I d2 n2 y L2 u p2 e2 h2 ry
  have hu := C.un
  exact SeqAt.ne_plain r1 r2 l1 l2 (by omega) ⟨.bl _, H, I, rfl, q⟩
theorem at_eq {x y : V} {Q : VK} (h : At R σ e H Ls F sub .eq [x, y] Q) : rEqG false x y H Q := by
  obtain ⟨⟨l, d, rr, hk, hb, k⟩, g⟩ := h
  obtain ⟨a, b, hl, hf⟩ := b2_some (f := fun a b => (eqD a b).map .bl) hb
  obtain ⟨c, hc, rfl⟩ := Option.map_eq_some_iff.mp hf
  obtain ⟨n1, n2, v1, v2, L1, L2, rfl, hv, r1, r2⟩ := rr.two hl
  cases hv
  exact ⟨R, _, n1, a, L1, n2, b, L2, c, r1, r2, hc, k.bl g⟩
theorem at_ne {x y : V} {Q : VK} (h : At R σ e H Ls F sub .ne [x, y] Q) : rEqG true x y H Q := by
  obtain ⟨⟨l, d, rr, hk, hb, k⟩, g⟩ := h
  obtain ⟨a, b, hl, hf⟩ := b2_some (f := fun a b => (eqD a b).map fun c => D.bl (!c)) hb
  obtain ⟨c, hc, rfl⟩ := Option.map_eq_some_iff.mp hf
  obtain ⟨n1, n2, v1, v2, L1, L2, rfl, hv, r1, r2⟩ := rr.two hl
  cases hv
  exact ⟨R, _, n1, a, L1, n2, b, L2, c, r1, r2, hc, k.bl g⟩
theorem at_lt {x y : V} {Q : VK} (h : At R σ e H Ls F sub .lt [x, y] Q) : rI0 (fun i j => .bl (decide (i < j))) x y H Q := by
  obtain ⟨a, b, d, rfl, rfl, hf, k, g⟩ := at_ii (fun _ => rfl) h
  cases hf
  exact ⟨a, b, rfl, rfl, k.bl g⟩
theorem at_le {x y : V} {Q : VK} (h : At R σ e H Ls F sub .le [x, y] Q) : rI0 (fun i j => .bl (decide (i ≤ j))) x y H Q := by
  obtain ⟨a, b, d, rfl, rfl, hf, k, g⟩ := at_ii (fun _ => rfl) h
  cases hf
  exact ⟨a, b, rfl, rfl, k.bl g⟩
theorem at_gt {x y : V} {Q : VK} (h : At R σ e H Ls F sub .gt [x, y] Q) : rI0 (fun i j => .bl (decide (j < i))) x y H Q := by
  obtain ⟨a, b, d, rfl, rfl, hf, k, g⟩ := at_ii (fun _ => rfl) h
  cases hf
  exact ⟨a, b, rfl, rfl, k.bl g⟩
theorem at_ge {x y : V} {Q : VK} (h : At R σ e H Ls F sub .ge [x, y] Q) : rI0 (fun i j => .bl (decide (j ≤ i))) x y H Q := by
  obtain ⟨a, b, d, rfl, rfl, hf, k, g⟩ := at_ii (fun _ => rfl) h
  cases hf
  exact ⟨a, b, rfl, rfl, k.bl g⟩
/-- x in c, x not in c: lists and tuples of data -/
def rInG (neg : Bool) : R2 := fun x y H Q => ∃ (R : Rn) (B : Addr → Prop) (n1 : Nat) (d1 : D) (L1 : List Addr) (n2 : Nat) (d2 : D) (L2 : List Addr) (l : List D) (b : Bool), Rep R H B n1 d1 x L1 ∧ Rep R H B n2 d2 y L2 ∧ (d2 = .lst l ∨ d2 = .tup l) ∧ anyEq d1 l = some b ∧ Q (.bl (if neg = true then !b else b)) H
theorem anyEq_some {a : D} {l : List D} {c : Bool} (h : anyEq a l = some c) : ∃ x ys, a.py = some x ∧ D.pys l = some ys ∧ x.plain = true ∧ PyData.plainAll ys = true ∧ x.depth ≤ 64 ∧ PyData.depthAll ys ≤ 64 ∧ (ys.any fun y => PyData.eqv y x) = c := by
  unfold anyEq at h
  split at h
  · rename_i x y hx hy
    split at h
    · rename_i hp
      cases h
      simp only [pl, Bool.and_eq_true, decide_eq_true_eq] at hp
      refine ⟨x, y, hx, hy, hp.1.1, ?_, hp.1.2, ?_, rfl⟩
      · simpa [PyData.plain] using hp.2.1
      · have := hp.2.2
        simp only [PyData.depth] at this
        omega
    · cases h
  · cases h
theorem or_in (C : Cok X) : OpR X (compareOp .In) (rInG false) := by
  intro pins s σ H x y v u Q I rx ry h
  obtain ⟨R, B, n1, d1, L1, n2, d2, L2, l, b, h1, h2, hd, hb, q⟩ := h
  obtain ⟨p1, p2, e1, e2, l1, l2, z1, z2, rfl⟩ := anyEq_some hb
  obtain ⟨as, r1⟩ := Rep.reads I d1 n1 x L1 v p1 e1 h1 rx
  have hu := C.un
  rcases hd with rfl | rfl
  · obtain ⟨bs, r2⟩ := Rep.reads I (.lst l) n2 y L2 u (.list p2) (by simp [D.py, e2]) h2 ry
    exact SeqAt.in_list_data r2 r1 l2 l1 (by omega) ⟨.bl _, H, I, rfl, q⟩
  · obtain ⟨bs, r2⟩ := Rep.reads I (.tup l) n2 y L2 u (.tuple p2) (by simp [D.py, e2]) h2 ry
    exact SeqAt.in_tuple_data r2 r1 l2 l1 (by omega) ⟨.bl _, H, I, rfl, q⟩
theorem or_nin (C : Cok X) : OpR X (compareOp .NotIn) (rInG true) := by
  intro pins s σ H x y v u Q I rx ry h
  obtain ⟨R, B, n1, d1, L1, n2, d2, L2, l, b, h1, h2, hd, hb, q⟩ := h
  obtain ⟨p1, p2, e1, e2, l1, l2, z1, z2, rfl⟩ := anyEq_some hb
  obtain ⟨as, r1⟩ := Rep.reads I d1 n1 x L1 v p1 e1 h1 rx
  have hu := C.un
  rcases hd with rfl | rfl
  · obtain ⟨bs, r2⟩ := Rep.reads I (.lst l) n2 y L2 u (.list p2) (by simp [D.py, e2]) h2 ry
    exact SeqAt.notIn_list_data r2 r1 l2 l1 (by omega) ⟨.bl _, H, I, rfl, q⟩
  · obtain ⟨bs, r2⟩ := Rep.reads I (.tup l) n2 y L2 u (.tuple p2) (by simp [D.py, e2]) h2 ry
    exact SeqAt.notIn_tuple_data r2 r1 l2 l1 (by omega) ⟨.bl _, H, I, rfl, q⟩
end
end G

set_option maxHeartbeats 1000000
/-! G.Ops3: built-in functions by their rules. -/
namespace G
open PySem L2 PyProof.Rows
section
variable {R : Rn} {σ : St} {e : Env} {H : Hp} {Ls : Nat → List Addr} {F : List Addr} {X : Cx} {sub : Nat → List Nat}
theorem at_1 {o : B} {f : D → Option D} (ho : ∀ ds, bsem sub o ds = b1 f ds) {vs : List V} {Q : VK} (h : At R σ e H Ls F sub o vs Q) :
    ∃ n a v L d, vs = [v] ∧ Rep R H (Bn R Ls F) n a v L ∧ ok1 n a = true ∧ f a = some d ∧ QK R σ e H Ls F (bopN o d) d Q ∧ Good R σ e H Ls F := by
  obtain ⟨⟨l, d, rr, hk, hb, k⟩, g⟩ := h
  rw [ho] at hb
  obtain ⟨a, hl, hf⟩ := b1_some hb
  obtain ⟨n, v, L, rfl, rfl, r⟩ := rr.one hl
  exact ⟨n, a, v, L, d, rfl, r, hk (n, a) (by simp), hf, k, g⟩

/-! ### len -/
def rLenA (K : PySem.W.Frag) : List V → Hp → VK → Prop := fun xs H Q => (∃ p ys, xs = [.ref p] ∧ (SqL K H p ys ∨ SqT K H p ys) ∧ Q (.int ys.length) H) ∨ (∃ z, xs = [.str z] ∧ z.length ≤ sizeLine ∧ Q (.int z.length) H)
theorem cr_len : CallR X (.builtin "len") (rLenA X.K) := call_len_seq.or call_len_str
/-- .. of a dict, of a set: their own rules -/
def lenO : D → Bool
  | .dct _ => true
  | .set _ => true
  | _ => false
theorem iL_eq : ∀ {l : List D} {ns : List Int}, iL l = some ns → l = ns.map .int
  | [], ns, h => by simp only [iL, Option.some.injEq] at h; rw [← h]; rfl
  | d :: r, ns, h => by
    cases d <;> simp only [iL] at h <;> try (cases h; done)
    obtain ⟨m, h1, rfl⟩ := Option.map_eq_some_iff.mp h
    rw [iL_eq h1]
    rfl
/-- a set, read -/
theorem Rep.setAt {B : Addr → Prop} {n : Nat} {l : List D} {v : V} {L : List Addr} (r : Rep R H B n (.set l) v L) : ∃ a ns, v = .ref a ∧ l = ns.map .int ∧ iL l = some ns ∧ ns.Nodup ∧ H a = some (SetO R.w a (fun j => decide (j ∈ ns)) ns.length) := by
  cases n with
  | zero =>
    simp only [Rep] at r
    obtain ⟨a, rfl, ⟨ns, h1, h2, h3⟩, _⟩ := r
    exact ⟨a, ns, rfl, iL_eq h1, h1, h2, h3⟩
  | succ n =>
    simp only [Rep] at r
    obtain ⟨a, rfl, ⟨ns, h1, h2, h3⟩, _⟩ := r
    exact ⟨a, ns, rfl, iL_eq h1, h1, h2, h3⟩
theorem at_len {vs : List V} {Q : VK} (h : At R σ e H Ls F sub .len vs Q) : rLenA X.K vs H Q ∨ (∃ l a es ep, vs = [.ref a] ∧ H a = some (DicO R.w a es ep) ∧ es.length = l.length ∧ Q (.int (l : List (D × D)).length) H) ∨
    ∃ (a : Addr) (ns : List Int), vs = [.ref a] ∧ H a = some (SetO R.w a (fun j => decide (j ∈ ns)) ns.length) ∧ Q (.int ns.length) H := by
  obtain ⟨n, a, v, L, d, rfl, r, hk, hf, k, g⟩ := at_1 (fun _ => rfl) h
  unfold lenD at hf
  split at hf
  · cases hf
    obtain ⟨p, xs, rfl, e1, q1⟩ := r.lst hk
    exact .inl (.inl ⟨p, xs, rfl, .inl (.of e1), by rw [q1.length]; exact k.int g⟩)
  · cases hf
    obtain ⟨p, xs, rfl, e1, nb, q1⟩ := r.tup hk
    exact .inl (.inl ⟨p, xs, rfl, .inr (.of e1), by rw [q1.length]; exact k.int g⟩)
  · rename_i l
    cases hf
    match n, hk with
    | 0, _ =>
      simp only [Rep] at r
      obtain ⟨p, es, ep, rfl, e1, nb, rfl, hr⟩ := r
      exact .inr (.inl ⟨l, p, es, ep, rfl, e1, hr.length, k.int g⟩)
    | 1, _ =>
      simp only [Rep] at r
      obtain ⟨p, es, ep, L', rfl, e1, rfl, hr⟩ := r
      exact .inr (.inl ⟨l, p, es, ep, rfl, e1, hr.length, k.int g⟩)
  · cases hf
    obtain ⟨a, ns, rfl, rfl, _, _, e1⟩ := r.setAt
    refine .inr (.inr ⟨a, ns, rfl, e1, ?_⟩)
    have k := k.int g
    rwa [List.length_map] at k
  · rename_i l
    cases hf
    simp only [Rep] at r
    obtain ⟨rfl, p, rfl, e1, nb⟩ := r
    exact .inl (.inl ⟨p, l.map V.int, rfl, .inl (.inl e1), by rw [List.length_map]; exact k.int g⟩)
  · split at hf
    · rename_i x hz
      cases hf
      exact .inl (.inr ⟨x, by rw [r.str], hz, k.int g⟩)
    · cases hf
  · cases hf

/-! ### list, tuple -/
def rListA (K : PySem.W.Frag) : List V → Hp → VK → Prop := fun xs H Q => ∃ p ys, xs = [.ref p] ∧ (SqL K H p ys ∨ SqT K H p ys) ∧ ∀ l, H l = none → Q (.ref l) (upd H l (.lst ys))
theorem at_list {vs : List V} {Q : VK} (h : At R σ e H Ls F sub .list vs Q) : rListA X.K vs H Q ∨ ∃ l a es ep, vs = [.ref a] ∧ H a = some (DicO R.w a es ep) ∧ RepK R H (Bn R Ls F) 0 l es [] ∧ QK R σ e H Ls F 1 (.lst ((l : List (D × D)).map (·.1))) Q ∧ Good R σ e H Ls F := by
  obtain ⟨n, a, v, L, d, rfl, r, hk, hf, k, g⟩ := at_1 (fun _ => rfl) h
  unfold listD at hf
  split at hf
  · cases hf
    obtain ⟨p, xs, rfl, e1, q1⟩ := r.lst hk
    exact .inl ⟨p, xs, rfl, .inl (.of e1), k.newL g q1⟩
  · cases hf
    obtain ⟨p, xs, rfl, e1, nb, q1⟩ := r.tup hk
    exact .inl ⟨p, xs, rfl, .inr (.of e1), k.newL g q1⟩
  · rename_i l
    cases hf
    match n, hk with
    | 0, _ =>
      simp only [Rep] at r
      obtain ⟨p, es, ep, rfl, e1, nb, rfl, hr⟩ := r
      exact .inr ⟨l, p, es, ep, rfl, e1, hr, k, g⟩
    | 1, _ =>
      simp only [Rep] at r
      obtain ⟨p, es, ep, L', rfl, e1, rfl, hr⟩ := r
      have z := RepK.zero l es L' hr
      subst z
      exact .inr ⟨l, p, es, ep, rfl, e1, hr, k, g⟩
  · cases hf
def rTupA (K : PySem.W.Frag) : List V → Hp → VK → Prop := fun xs H Q => ∃ p ys, xs = [.ref p] ∧ ((SqL K H p ys ∧ ∀ l, H l = none → Q (.ref l) (upd H l (.tup ys))) ∨ (SqT K H p ys ∧ Q (.ref p) H))
theorem at_tuple {vs : List V} {Q : VK} (h : At R σ e H Ls F sub .tuple vs Q) : rTupA X.K vs H Q := by
  obtain ⟨n, a, v, L, d, rfl, r, hk, hf, k, g⟩ := at_1 (fun _ => rfl) h
  unfold tupleD at hf
  split at hf
  · cases hf
    obtain ⟨p, xs, rfl, e1, q1⟩ := r.lst hk
    have k0 : QK R σ e H Ls F 0 _ Q := k
    exact ⟨p, xs, rfl, .inl ⟨.of e1, k0.newT g q1⟩⟩
  · cases hf
    obtain ⟨p, xs, rfl, e1, nb, q1⟩ := r.tup hk
    have k0 : QK R σ e H Ls F 0 _ Q := k
    exact ⟨p, xs, rfl, .inr ⟨.of e1, k0.val g (Rep.tup0 e1 nb q1)⟩⟩
  · cases hf

/-! ### numbers -/
theorem at_abs {vs : List V} {Q : VK} (h : At R σ e H Ls F sub .abs vs Q) : ∃ i, vs = [.int i] ∧ Q (.int (if i < 0 then -i else i)) H := by
  obtain ⟨n, a, v, L, d, rfl, r, hk, hf, k, g⟩ := at_1 (fun _ => rfl) h
  unfold absD at hf
  split at hf
  · cases hf
    exact ⟨_, by rw [r.int], k.int g⟩
  · cases hf
theorem at_neg {v : V} {Q : VK} (h : At R σ e H Ls F sub .neg [v] Q) : rU (fun i => .int (-i)) v H Q := by
  obtain ⟨n, a, v', L, d, hv, r, hk, hf, k, g⟩ := at_1 (fun _ => rfl) h
  cases hv
  unfold negD at hf
  split at hf
  · cases hf
    exact ⟨_, r.int, k.int g⟩
  · cases hf
theorem at_int {vs : List V} {Q : VK} (h : At R σ e H Ls F sub .int vs Q) : (∃ i, vs = [.int i] ∧ Q (.int i) H) ∨ ∃ b, vs = [.bl b] ∧ Q (.int (if b then 1 else 0)) H := by
  obtain ⟨n, a, v, L, d, rfl, r, hk, hf, k, g⟩ := at_1 (fun _ => rfl) h
  unfold intD at hf
  split at hf
  · cases hf
    exact .inl ⟨_, by rw [r.int], k.int g⟩
  · cases hf
    exact .inr ⟨_, by rw [r.bl], k.int g⟩
  · cases hf
theorem at_iiL {o : B} {f : Int → Int → Option D} (ho : ∀ ds, bsem sub o ds = bII f ds) {vs : List V} {Q : VK} (h : At R σ e H Ls F sub o vs Q) : ∃ a b d, vs = [.int a, .int b] ∧ f a b = some d ∧ QK R σ e H Ls F (bopN o d) d Q ∧ Good R σ e H Ls F := by
  obtain ⟨⟨l, d, rr, hk, hb, k⟩, g⟩ := h
  rw [ho] at hb
  obtain ⟨a, b, hl, hf⟩ := bII_some hb
  obtain ⟨n1, n2, v1, v2, L1, L2, rfl, rfl, r1, r2⟩ := rr.two hl
  exact ⟨a, b, d, by rw [r1.int, r2.int], hf, k, g⟩
theorem at_max2 {vs : List V} {Q : VK} (h : At R σ e H Ls F sub .max2 vs Q) : ∃ i j, vs = [.int i, .int j] ∧ Q (.int (if j > i then j else i)) H := by
  obtain ⟨a, b, d, rfl, hf, k, g⟩ := at_iiL (fun _ => rfl) h
  cases hf
  exact ⟨a, b, rfl, k.int g⟩
theorem at_min2 {vs : List V} {Q : VK} (h : At R σ e H Ls F sub .min2 vs Q) : ∃ i j, vs = [.int i, .int j] ∧ Q (.int (if j < i then j else i)) H := by
  obtain ⟨a, b, d, rfl, hf, k, g⟩ := at_iiL (fun _ => rfl) h
  cases hf
  exact ⟨a, b, rfl, k.int g⟩
theorem foldl_max_ge : ∀ (r : List Int) (a : Int), a ≤ r.foldl max a ∧ (∀ y ∈ r, y ≤ r.foldl max a) ∧ (r.foldl max a = a ∨ r.foldl max a ∈ r)
  | [], a => ⟨Int.le_refl _, (fun _ z => nomatch z), .inl rfl⟩
  | x :: r, a => by
    obtain ⟨h1, h2, h3⟩ := foldl_max_ge r (max a x)
    simp only [List.foldl_cons]
    refine ⟨by omega, fun y hy => ?_, ?_⟩
    · rcases List.mem_cons.mp hy with rfl | hy
      · omega
      · exact h2 y hy
    · rcases h3 with h3 | h3
      · rw [h3]
        by_cases hx : a ≤ x
        · exact .inr (by rw [Int.max_eq_right hx]; exact List.mem_cons_self)
        · exact .inl (Int.max_eq_left (by omega))
      · exact .inr (List.mem_cons_of_mem _ h3)
theorem foldl_min_le : ∀ (r : List Int) (a : Int), r.foldl min a ≤ a ∧ (∀ y ∈ r, r.foldl min a ≤ y) ∧ (r.foldl min a = a ∨ r.foldl min a ∈ r)
  | [], a => ⟨Int.le_refl _, (fun _ z => nomatch z), .inl rfl⟩
  | x :: r, a => by
    obtain ⟨h1, h2, h3⟩ := foldl_min_le r (min a x)
    simp only [List.foldl_cons]
    refine ⟨by omega, fun y hy => ?_, ?_⟩
    · rcases List.mem_cons.mp hy with rfl | hy
      · omega
      · exact h2 y hy
    · rcases h3 with h3 | h3
      · rw [h3]
        by_cases hx : a ≤ x
        · exact .inl (Int.min_eq_left hx)
        · exact .inr (by rw [Int.min_eq_right (by omega)]; exact List.mem_cons_self)
      · exact .inr (List.mem_cons_of_mem _ h3)
theorem at_maxL {vs : List V} {Q : VK} (h : At R σ e H Ls F sub .maxL vs Q) : rMax X.K vs H Q := by
  obtain ⟨n, a, v, L, d, rfl, r, hk, hf, k, g⟩ := at_1 (fun _ => rfl) h
  unfold maxLD at hf
  split at hf
  · rename_i l
    obtain ⟨p, xs, rfl, e1, q1⟩ := r.lst hk
    split at hf
    · rename_i a r hi
      cases hf
      obtain ⟨rfl, _⟩ := q1.ints hi
      obtain ⟨h1, h2, h3⟩ := foldl_max_ge r a
      refine ⟨p, a :: r, rfl, .of e1, by simp, fun m hm hall => ?_⟩
      have : m = r.foldl max a := by
        refine Int.le_antisymm ?_ ?_
        · rcases List.mem_cons.mp hm with rfl | hm
          · exact h1
          · exact h2 m hm
        · rcases h3 with h3 | h3
          · rw [h3]; exact hall a List.mem_cons_self
          · exact hall _ (List.mem_cons_of_mem _ h3)
      rw [this]
      exact k.int g
    · cases hf
  · cases hf
theorem at_minL {vs : List V} {Q : VK} (h : At R σ e H Ls F sub .minL vs Q) : rMin X.K vs H Q := by
  obtain ⟨n, a, v, L, d, rfl, r, hk, hf, k, g⟩ := at_1 (fun _ => rfl) h
  unfold minLD at hf
  split at hf
  · rename_i l
    obtain ⟨p, xs, rfl, e1, q1⟩ := r.lst hk
    split at hf
    · rename_i a r hi
      cases hf
      obtain ⟨rfl, _⟩ := q1.ints hi
      obtain ⟨h1, h2, h3⟩ := foldl_min_le r a
      refine ⟨p, a :: r, rfl, .of e1, by simp, fun m hm hall => ?_⟩
      have : m = r.foldl min a := by
        refine Int.le_antisymm ?_ ?_
        · rcases h3 with h3 | h3
          · rw [h3]; exact hall a List.mem_cons_self
          · exact hall _ (List.mem_cons_of_mem _ h3)
        · rcases List.mem_cons.mp hm with rfl | hm
          · exact h1
          · exact h2 m hm
      rw [this]
      exact k.int g
    · cases hf
  · cases hf
theorem at_sum {vs : List V} {Q : VK} (h : At R σ e H Ls F sub .sum vs Q) : rSum X.K vs H Q := by
  obtain ⟨n, a, v, L, d, rfl, r, hk, hf, k, g⟩ := at_1 (fun _ => rfl) h
  unfold sumD at hf
  split at hf
  · rename_i l
    obtain ⟨p, xs, rfl, e1, q1⟩ := r.lst hk
    obtain ⟨is, hi, rfl⟩ := Option.map_eq_some_iff.mp hf
    obtain ⟨rfl, _⟩ := q1.ints hi
    exact ⟨p, is, rfl, .of e1, k.int g⟩
  · cases hf
theorem at_any {vs : List V} {Q : VK} (h : At R σ e H Ls F sub .any vs Q) : rAny X.K vs H Q := by
  obtain ⟨n, a, v, L, d, rfl, r, hk, hf, k, g⟩ := at_1 (fun _ => rfl) h
  unfold anyD at hf
  split at hf
  · rename_i l
    obtain ⟨p, xs, rfl, e1, q1⟩ := r.lst hk
    obtain ⟨bs, hi, rfl⟩ := Option.map_eq_some_iff.mp hf
    have z := q1.bools hi
    subst z
    exact ⟨p, bs, rfl, .of e1, k.bl g⟩
  · cases hf
theorem at_all {vs : List V} {Q : VK} (h : At R σ e H Ls F sub .all vs Q) : rAll X.K vs H Q := by
  obtain ⟨n, a, v, L, d, rfl, r, hk, hf, k, g⟩ := at_1 (fun _ => rfl) h
  unfold allD at hf
  split at hf
  · rename_i l
    obtain ⟨p, xs, rfl, e1, q1⟩ := r.lst hk
    obtain ⟨bs, hi, rfl⟩ := Option.map_eq_some_iff.mp hf
    have z := q1.bools hi
    subst z
    exact ⟨p, bs, rfl, .of e1, k.bl g⟩
  · cases hf

/-! ### repr -/
theorem isE_eq {d : D} (h : isE d = true) : d = .dct [] := by
  unfold isE at h
  split at h
  · rfl
  · cases h
theorem isE_not {d : D} {p : PyData} (hp : d.py = some p) (hn : ∀ l, p ≠ .dict l := by intro l z; cases z) : ¬ isE d = true := fun h => by
  rw [isE_eq h] at hp
  simp only [D.py, D.pyk, Option.map_some, Option.some.injEq] at hp
  exact hn _ hp.symm
theorem _root_.PySem.ReadsAll.nil_of {h : Heap} {vs : List Value} {as : List Addr} (r : ReadsAll h vs [] as) : as = [] := by
  cases r
  rfl
theorem sys_of {pins : List (Addr × Obj)} {s : Shared} {B : Addr → Prop} {n : Nat} {v : V} {L : List Addr} {a : Addr} (I : L2.Inv X pins σ H s) (h : Rep R H B n (.dct []) v L) (r : RelV v (.ref a)) : ¬ sysModules = a := by
  have z : ∃ b es ep, v = .ref b ∧ H b = some (DicO R.w b es ep) := by
    cases n with
    | zero => simp only [Rep] at h; obtain ⟨a, es, ep, rfl, e, _⟩ := h; exact ⟨a, es, ep, rfl, e⟩
    | succ n => simp only [Rep] at h; obtain ⟨a, es, ep, L', rfl, e, _⟩ := h; exact ⟨a, es, ep, rfl, e⟩
  obtain ⟨b, es, ep, rfl, e⟩ := z
  cases r
  obtain ⟨⟨o, des, h1, h2, h3, h4, _⟩, _⟩ := I.hok _ _ e
  intro z
  rw [← z] at h4
  simp at h4
def rReprG : List V → Hp → VK → Prop := fun xs H Q => ∃ (R : Rn) (B : Addr → Prop) (n : Nat) (d : D) (v : V) (L : List Addr) (p : PyData), xs = [v] ∧ Rep R H B n d v L ∧ d.py = some p ∧ p.showable = true ∧ (p.hasDict = false ∨ isE d = true) ∧ p.depth ≤ 64 ∧ p.shown.length ≤ sizeLine ∧ Q (.str p.shown) H
theorem cr_repr (C : Cok X) : CallR X (.builtin "repr") rReprG := by
  intro pins s σ H xs us Q I r h
  obtain ⟨R, B, n, d, v, L, p, rfl, hr, hp, h1, h2, h3, h4, q⟩ := h
  obtain ⟨u, rfl, ru⟩ := vals1 r
  obtain ⟨as, rd⟩ := Rep.reads I d n v L u p hp hr ru
  have hu := C.un
  cases rd with
  | none => exact PySem.P.repr_of_none ⟨.str _, H, I.tok _, ⟨_, rfl⟩, q⟩
  | bool b => exact PySem.P.repr_of_bool ⟨.str _, H, I.tok _, ⟨_, rfl⟩, q⟩
  | int i t => exact PySem.P.repr_of_int (of_decide_eq_true (by simpa [PyData.showable] using h1)) ⟨.str _, H, I.tok _, ⟨_, rfl⟩, q⟩
  | str x t => exact PySem.P.repr_of_str ⟨.str _, H, I.tok _, ⟨_, rfl⟩, q⟩
  | list e1 e2 e3 e4 => exact repr_of_reads' (.list e1 e2 e3 e4) h1 (PyData.noDict_hsm (h2.resolve_right (isE_not hp))) C.gd (by omega) (fun _ _ z => z) (fun h' u tk hk => ⟨.str _, H, I.kept hk, ⟨_, rfl⟩, q⟩) h4
  | tuple e1 e2 e3 e4 => exact repr_of_reads' (.tuple e1 e2 e3 e4) h1 (PyData.noDict_hsm (h2.resolve_right (isE_not hp))) C.gd (by omega) (fun _ _ z => z) (fun h' u tk hk => ⟨.str _, H, I.kept hk, ⟨_, rfl⟩, q⟩) h4
  | dict e1 e2 e3 e4 e5 =>
    have hd : d = .dct [] := by
      rcases h2 with h2 | h2
      · simp [PyData.hasDict] at h2
      · exact isE_eq h2
    subst hd
    simp only [D.py, D.pyk, Option.map_some, Option.some.injEq, PyData.dict.injEq] at hp
    subst hp
    have z4 : _ = _ := e4.nil_of
    have z5 := e5.nil_of
    subst z4 z5
    have hs := sys_of I hr ru
    exact repr_of_reads' (.dict e1 e2 e3 e4 e5) h1 (fun _ => by simpa using hs) C.gd (by omega) (fun _ _ z => z) (fun h' u tk hk => ⟨.str _, H, I.kept hk, ⟨_, rfl⟩, q⟩) h4
end
end G

set_option maxHeartbeats 1000000
/-! G.Ops4: isinstance, subscripts, slices, is None. -/
namespace G
open PySem L2 PyProof.Rows
section
variable {R : Rn} {σ : St} {e : Env} {H : Hp} {Ls : Nat → List Addr} {F : List Addr} {X : Cx} {sub : Nat → List Nat}
def Ty.nm : Ty → String
  | .int => "int"
  | .bool => "bool"
  | .str => "str"
  | .list => "list"
  | .tuple => "tuple"
  | .dict => "dict"
  | .set => "set"
  | .ve => "ValueError"
  | .cls _ => "object"
def isTyN (n : String) (t : Ty) : Bool := n == t.nm || (n == "bool" && t.nm == "int")
theorem isTy_n {d : D} {n : String} {t : Ty} (h : tyD d = some n) (ht : t.own = false) : isTy sub t d = isTyN n t := by
  cases d <;> cases h <;> cases t <;> first | rfl | cases ht
theorem kit_isTy {K : PySem.W.Frag} {d : D} {n : String} {t : Ty} (h : tyD d = some n) (ht : t.own = false) : PySem.W.kitOne K (.type n) (.type t.nm) = some (isTy sub t d) := by
  rw [isTy_n h ht]
  cases d <;> cases h <;> cases t <;> first | (refine kit_ty ?_; decide +kernel) | cases ht
theorem kit_any {K : PySem.W.Frag} {d : D} {n : String} (h : tyD d = some n) : ∀ {ts : List Ty}, (∀ t ∈ ts, t.own = false) → PySem.W.kitAny K (.type n) (ts.map fun t => .type t.nm) = some (ts.any fun t => isTy sub t d)
  | [], _ => rfl
  | t :: r, ht => by
    have h1 := kit_isTy (K := K) (sub := sub) h (ht t List.mem_cons_self)
    have h2 := kit_any (K := K) h fun t z => ht t (List.mem_cons_of_mem _ z)
    simp only [List.map_cons, List.any_cons]
    refine kitAny_cons h1 (fun z => ?_) fun z => ?_
    · rw [z]; exact h2
    · rw [z]; rfl
theorem kit_rep {pins : List (Addr × Obj)} {s : Shared} {B : Addr → Prop} {n : Nat} {d : D} {v : V} {L : List Addr} {u : Value} {t : String} (I : L2.Inv X pins σ H s) (h : Rep R H B n d v L) (r : RelV v u) (ht : tyD d = some t) :
    ∃ P : Heap → Prop, PySem.W.KitX X.K u (.type t) P ∧ P s.heap ∧ u ≠ .builtin "__main__.__loader__#opaque" := by
  cases d with
  | non =>
    cases ht
    simp only [Rep] at h
    rw [h.1] at r
    cases r
    exact ⟨_, PySem.W.kitx_none, True.intro, fun z => nomatch z⟩
  | bl b =>
    cases ht
    rw [h.bl] at r
    cases r
    exact ⟨_, PySem.W.kitx_bool, True.intro, fun z => nomatch z⟩
  | int i =>
    cases ht
    rw [h.int] at r
    obtain ⟨t, rfl⟩ := r
    exact ⟨_, PySem.W.kitx_int, True.intro, fun z => nomatch z⟩
  | str x =>
    cases ht
    rw [h.str] at r
    obtain ⟨t, rfl⟩ := r
    exact ⟨_, PySem.W.kitx_str, True.intro, fun z => nomatch z⟩
  | tup l =>
    cases ht
    simp only [Rep] at h
    obtain ⟨a, xs, rfl, e, nb, hr⟩ := h
    cases r
    obtain ⟨_, _, _, o, h1, h2, _⟩ := I.hok a _ e
    exact ⟨_, PySem.W.kitx_tuple, ⟨o, h1, h2⟩, fun z => nomatch z⟩
  | lst l =>
    cases ht
    have z : ∃ a xs, v = .ref a ∧ H a = some (.lst xs) := by
      cases n with
      | zero => simp only [Rep] at h; obtain ⟨a, xs, rfl, e, _⟩ := h; exact ⟨a, xs, rfl, e⟩
      | succ n => simp only [Rep] at h; obtain ⟨a, xs, L', rfl, e, _⟩ := h; exact ⟨a, xs, rfl, e⟩
    obtain ⟨a, xs, rfl, e⟩ := z
    cases r
    obtain ⟨_, _, k, _, h1⟩ := I.hok a _ e
    exact ⟨_, PySem.W.kitx_list, ⟨_, h1, rfl⟩, fun z => nomatch z⟩
  | dct l =>
    cases ht
    have z : ∃ a es ep, v = .ref a ∧ H a = some (DicO R.w a es ep) := by
      cases n with
      | zero => simp only [Rep] at h; obtain ⟨a, es, ep, rfl, e, _⟩ := h; exact ⟨a, es, ep, rfl, e⟩
      | succ n => simp only [Rep] at h; obtain ⟨a, es, ep, L', rfl, e, _⟩ := h; exact ⟨a, es, ep, rfl, e⟩
    obtain ⟨a, es, ep, rfl, e⟩ := z
    cases r
    obtain ⟨⟨o, des, h1, h2, _⟩, _⟩ := I.hok a _ e
    exact ⟨_, PySem.W.kitx_dict, ⟨o, h1, h2.1⟩, fun z => nomatch z⟩
  | _ => cases ht
/-- isinstance of data by built-in classes -/
def rIsiG (sub : Nat → List Nat) : List V → Hp → VK → Prop := fun xs H Q => ∃ (R : Rn) (B : Addr → Prop) (n : Nat) (d : D) (v : V) (L : List Addr) (ts : List Ty), Rep R H B n d v L ∧ (tyD d).isSome = true ∧ (∀ t ∈ ts, t.own = false) ∧
  ((∃ t, ts = [t] ∧ xs = [v, .ty t.nm]) ∨ ∃ tp, xs = [v, .ref tp] ∧ H tp = some (.tup (ts.map fun t => .ty t.nm))) ∧ Q (.bl (ts.any fun t => isTy sub t d)) H
theorem clsVs : ∀ ts : List Ty, Paired ClsV (ts.map fun t => V.ty t.nm) (ts.map fun t => Value.type t.nm)
  | [] => .nil
  | t :: r => .cons (.ty _) (clsVs r)
theorem cr_isi : CallR X (.builtin "isinstance") (rIsiG sub) := by
  intro pins s σ H xs us Q I r h
  obtain ⟨R, B, n, d, v, L, ts, hr, hd, ht, hx, q⟩ := h
  obtain ⟨t, hd⟩ := Option.isSome_iff_exists.mp hd
  rcases hx with ⟨t', rfl, rfl⟩ | ⟨tp, rfl, hT⟩
  · obtain ⟨u1, u2, rfl, r1, r2⟩ := vals2 r
    cases r2
    obtain ⟨P, Z, p, hx⟩ := kit_rep I hr r1 hd
    have hk := kit_isTy (K := X.K) (sub := sub) hd (ht t' (by simp))
    simp only [List.any_cons, List.any_nil, Bool.or_false] at q
    exact PySem.W.kia_one Z I.kIn p hk hx fun tk => ⟨.bl _, H, I.tok tk, rfl, q⟩
  · obtain ⟨u1, u2, rfl, r1, r2⟩ := vals2 r
    cases r2
    obtain ⟨P, Z, p, hx⟩ := kit_rep I hr r1 hd
    obtain ⟨_, its, rv, o, h1, h2, n, h3⟩ := I.hok tp _ hT
    have e3 := ClsV.all (clsVs ts) rv
    subst e3
    obtain ⟨oc, od, dt, sl⟩ := o
    simp only at h2 h3
    subst h2 h3
    exact PySem.W.kia_tup Z I.kIn p h1 (kit_any (sub := sub) hd ht) hx fun tk => ⟨.bl _, H, I.tok tk, rfl, q⟩

/-! ### subscripts of lists and tuples -/
theorem at_idx {x y : V} {Q : VK} (h : At R σ e H Ls F sub .idx [x, y] Q) : rIx X.K x y H Q := by
  obtain ⟨⟨l, d, rr, hk, hb, k⟩, g⟩ := h
  obtain ⟨a, b, hl, hf⟩ := b2_some (f := idxD) hb
  obtain ⟨n1, n2, v1, v2, L1, L2, rfl, hv, r1, r2⟩ := rr.two hl
  cases hv
  have k : QK R σ e H Ls F 0 d Q := k
  unfold idxD at hf
  split at hf
  · rename_i l i
    obtain ⟨p, xs, rfl, e1, q1⟩ := r1.lst (hk (n1, _) (by simp))
    obtain ⟨j, h1, h2, h3, h4, h5⟩ := atI_get hf
    obtain ⟨v, hv, rv⟩ := q1.get h2
    refine (.inl ⟨p, xs, i, v, rfl, r2.int, .of e1, ?_, k.val g rv⟩)
    unfold atI
    unfold atI at hf
    rw [q1.length]
    cases hz : ixN l.length i with
    | none => rw [hz] at hf; cases hf
    | some j' =>
      rw [hz] at hf
      obtain ⟨z1, _⟩ := ixN_seq hz
      rw [h1] at z1
      cases z1
      exact hv
  · rename_i l i
    obtain ⟨p, xs, rfl, e1, nb, q1⟩ := r1.tup (hk (n1, _) (by simp))
    obtain ⟨j, h1, h2, h3, h4, h5⟩ := atI_get hf
    obtain ⟨v, hv, rv⟩ := q1.get h2
    refine (.inr (.inl ⟨p, xs, i, v, rfl, r2.int, .of e1, ?_, k.val g rv⟩))
    unfold atI
    unfold atI at hf
    rw [q1.length]
    cases hz : ixN l.length i with
    | none => rw [hz] at hf; cases hf
    | some j' =>
      rw [hz] at hf
      obtain ⟨z1, _⟩ := ixN_seq hz
      rw [h1] at z1
      cases z1
      exact hv
  · cases hf
/-! ### slices -/
def rSlG (K : PySem.W.Frag) : V → Option Int → Option Int → Hp → VK → Prop := fun x lo hi H Q => rSlL K x lo hi H Q ∨ rSlA K x lo hi H Q
theorem sl_g : SlR X (rSlG X.K) := sl_list.or sl_tupA
theorem Reps.slice {B : Addr → Prop} {n : Nat} {l : List D} {xs : List V} (h : Reps R H B n l xs []) (lo hi : Option Int) : Reps R H B n (cut l lo hi) (cutV xs lo hi) [] := by
  unfold cut cutV
  rw [h.length]
  exact (h.drop _).take _
theorem cut_all {α : Type} {l : List α} {lo hi : Option Int} (h : HT.sIx l.length 0 lo = 0 ∧ HT.sIx l.length l.length hi = l.length) : cut l lo hi = l := by
  unfold cut
  rw [h.1, h.2]
  simp
theorem Reps.ofInts {B : Addr → Prop} {n : Nat} : ∀ l : List Int, Reps R H B n (l.map .int) (l.map V.int) []
  | [] => by simp [Reps]
  | i :: l => by
    simp only [List.map_cons, Reps]
    exact ⟨_, _, [], [], rfl, rfl, by simp [Rep], Reps.ofInts l⟩
theorem slc_of {x : V} {n : Nat} {a d : D} {L : List Addr} {lo hi : Option Int} {Q : VK} (r : Rep R H (Bn R Ls F) n a x L) (hk : ok1 n a = true) (hf : slcD lo hi a = some d) (k : QK R σ e H Ls F (top d) d Q) (g : Good R σ e H Ls F) : rSlG X.K x lo hi H Q := by
  unfold slcD at hf
  split at hf
  · cases hf
    obtain ⟨p, xs, rfl, e1, q1⟩ := r.lst hk
    exact .inl ⟨p, xs, rfl, .of e1, k.newL g (q1.slice lo hi)⟩
  · rename_i l
    cases hf
    obtain ⟨p, xs, rfl, e1, nb, q1⟩ := r.tup hk
    have k0 : QK R σ e H Ls F 0 _ Q := k
    refine .inr ⟨p, xs, rfl, .of e1, fun z => ?_, fun _ => k0.newT g (q1.slice lo hi)⟩
    rw [q1.length] at z
    rw [cut_all z] at k0
    exact k0.val g (Rep.tup0 e1 nb q1)
  · rename_i l
    cases hf
    simp only [Rep] at r
    obtain ⟨_, p, rfl, e1, nb⟩ := r
    exact .inl ⟨p, l.map V.int, rfl, .inl e1, k.newL g (Reps.slice (Reps.ofInts l) lo hi)⟩
  · cases hf
theorem at_slc_tt {x y z : V} {Q : VK} (h : At R σ e H Ls F sub (.slc true true) [x, y, z] Q) : ∃ a b, y = .int a ∧ z = .int b ∧ rSlG X.K x (some a) (some b) H Q := by
  obtain ⟨⟨l, d, rr, hk, hb, k⟩, g⟩ := h
  have hb : bSlc true true (l.map (·.2)) = some d := hb
  generalize hm : l.map (·.2) = ds at hb
  match ds, hb with
  | [a, .int b, .int c], hb =>
    obtain ⟨n1, n2, n3, v1, v2, v3, L1, L2, L3, rfl, hv, r1, r2, r3⟩ := rr.three hm
    cases hv
    exact ⟨_, _, r2.int, r3.int, slc_of r1 (hk (n1, _) (by simp)) hb k g⟩
theorem at_slc_tf {x y : V} {Q : VK} (h : At R σ e H Ls F sub (.slc true false) [x, y] Q) : ∃ a, y = .int a ∧ rSlG X.K x (some a) none H Q := by
  obtain ⟨⟨l, d, rr, hk, hb, k⟩, g⟩ := h
  have hb : bSlc true false (l.map (·.2)) = some d := hb
  generalize hm : l.map (·.2) = ds at hb
  match ds, hb with
  | [a, .int b], hb =>
    obtain ⟨n1, n2, v1, v2, L1, L2, rfl, hv, r1, r2⟩ := rr.two hm
    cases hv
    exact ⟨_, r2.int, slc_of r1 (hk (n1, _) (by simp)) hb k g⟩
theorem at_slc_ft {x y : V} {Q : VK} (h : At R σ e H Ls F sub (.slc false true) [x, y] Q) : ∃ a, y = .int a ∧ rSlG X.K x none (some a) H Q := by
  obtain ⟨⟨l, d, rr, hk, hb, k⟩, g⟩ := h
  have hb : bSlc false true (l.map (·.2)) = some d := hb
  generalize hm : l.map (·.2) = ds at hb
  match ds, hb with
  | [a, .int b], hb =>
    obtain ⟨n1, n2, v1, v2, L1, L2, rfl, hv, r1, r2⟩ := rr.two hm
    cases hv
    exact ⟨_, r2.int, slc_of r1 (hk (n1, _) (by simp)) hb k g⟩
/-! ### is None -/
theorem none_of_rep {B : Addr → Prop} {n : Nat} {d : D} {v : V} {L : List Addr} (h : Rep R H B n d v L) : decide (v = .non) = isNone d := by
  cases d with
  | non => simp only [Rep] at h; rw [h.1]; rfl
  | bl b => rw [h.bl]; rfl
  | int i => rw [h.int]; rfl
  | str x => rw [h.str]; rfl
  | tup l => simp only [Rep] at h; obtain ⟨a, xs, rfl, _⟩ := h; rfl
  | lst l =>
    cases n with
    | zero => simp only [Rep] at h; obtain ⟨a, xs, rfl, _⟩ := h; rfl
    | succ n => simp only [Rep] at h; obtain ⟨a, xs, L', rfl, _⟩ := h; rfl
  | dct l =>
    cases n with
    | zero => simp only [Rep] at h; obtain ⟨a, es, ep, rfl, _⟩ := h; rfl
    | succ n => simp only [Rep] at h; obtain ⟨a, es, ep, L', rfl, _⟩ := h; rfl
  | rnd => simp only [Rep] at h; obtain ⟨_, r, _, rfl⟩ := h; rfl
  | scr l => simp only [Rep] at h; obtain ⟨_, a, rfl, _⟩ := h; rfl
  | set l => obtain ⟨a, ns, rfl, _⟩ := h.setAt; rfl
  | ins c fs => simp only [Rep] at h; obtain ⟨_, a, _, _, rfl, _⟩ := h; rfl
  | exn c fs => simp only [Rep] at h; obtain ⟨_, a, _, _, rfl, _⟩ := h; rfl
  | clo b cs => simp only [Rep] at h; obtain ⟨_, f, rfl, _⟩ := h; rfl
theorem at_isN {x : V} {Q : VK} (h : At R σ e H Ls F sub .isN [x] Q) : Q (.bl (decide (x = .non))) H := by
  obtain ⟨n, a, v, L, d, hv, r, hk, hf, k, g⟩ := at_1 (fun _ => rfl) h
  cases hv
  cases hf
  rw [none_of_rep r]
  exact k.bl g
theorem at_notN {x : V} {Q : VK} (h : At R σ e H Ls F sub .notN [x] Q) : Q (.bl (!decide (x = .non))) H := by
  obtain ⟨n, a, v, L, d, hv, r, hk, hf, k, g⟩ := at_1 (fun _ => rfl) h
  cases hv
  cases hf
  rw [none_of_rep r]
  exact k.bl g
/-! ### a range as a list, as a tuple; backwards -/
theorem Reps.rg {B : Addr → Prop} {n : Nat} (a b : Int) : Reps R H B n (rangeD a b) (rgV a b) [] := by
  have z : ∀ l : List Nat, Reps R H B n (l.map fun i => D.int (a + (i : Nat))) (l.map fun i => V.int (a + (i : Nat))) [] := by
    intro l
    induction l with
    | nil => exact .nil
    | cons i l ih => exact .cons (by simp [Rep]) ih
  exact z _
theorem at_tupR {x : V} {Q : VK} (h : At R σ e H Ls F sub .tupR [x] Q) : ∃ n, x = .int n ∧ (0 ≤ n ∧ n ≤ 10000) ∧ ∀ q, H q = none → Q (.ref q) (upd H q (.tup (rgV 0 n))) := by
  obtain ⟨n, a, v, L, d, hv, r, hk, hf, k, g⟩ := at_1 (fun _ => rfl) h
  cases hv
  split at hf
  · rename_i m
    split at hf
    · rename_i hz
      cases hf
      have k0 : QK R σ e H Ls F 0 _ Q := k
      exact ⟨m, r.int, hz, k0.newT g (Reps.rg 0 m)⟩
    · cases hf
  · cases hf
theorem at_listR {x : V} {Q : VK} (h : At R σ e H Ls F sub .listR [x] Q) : ∃ n, x = .int n ∧ (0 ≤ n ∧ n ≤ 10000) ∧ ∀ q, H q = none → Q (.ref q) (upd H q (.lst (rgV 0 n))) := by
  obtain ⟨n, a, v, L, d, hv, r, hk, hf, k, g⟩ := at_1 (fun _ => rfl) h
  cases hv
  split at hf
  · rename_i m
    split at hf
    · rename_i hz
      cases hf
      exact ⟨m, r.int, hz, k.newL g (Reps.rg 0 m)⟩
    · cases hf
  · cases hf
end
end G

set_option maxHeartbeats 1000000
/-! G.Snd1: the judgements; expressions. -/
namespace L2
open PySem PyProof.Rows
section
variable {X : Cx}
theorem PE.imp {a : Expr} {t u : TE} (h : PE X a t) (f : ∀ σ H Q, u σ H Q → t σ H Q) : PE X a u := ⟨fun pins s σ H Q I z => h.run pins s σ H Q I (f _ _ _ z)⟩
theorem PT.imp {a : Expr} {t u : TT} (h : PT X a t) (f : ∀ σ H Q, u σ H Q → t σ H Q) : PT X a u := ⟨fun pins s σ H Q I z => h.run pins s σ H Q I (f _ _ _ z)⟩
theorem PW.imp {a : Expr} {t u : TT} (h : PW X a t) (f : ∀ σ H Q, u σ H Q → t σ H Q) : PW X a u := ⟨fun w pins s σ H Q I z => h.run w pins s σ H Q I (f _ _ _ z)⟩
theorem PA.imp {a : List Expr} {t u : TA} (h : PA X a t) (f : ∀ σ H Q, u σ H Q → t σ H Q) : PA X a u := ⟨fun p pins s σ H Q I z => h.run p pins s σ H Q I (f _ _ _ z)⟩
theorem PS.imp {a : Stmt} {t u : TS} (h : PS X a t) (f : ∀ D σ H, u D σ H → t D σ H) : PS X a u := ⟨fun pins s σ H D I z => h.run pins s σ H D I (f _ _ _ z)⟩
theorem PSs.imp {a : List Stmt} {t u : TS} (h : PSs X a t) (f : ∀ D σ H, u D σ H → t D σ H) : PSs X a u := ⟨fun pins s σ H D I z => h.run pins s σ H D I (f _ _ _ z)⟩
end
end L2
namespace G
open PySem L2 PyProof.Rows
/-- what a body is read with -/
structure Cg where
  R : Rn
  W : WD
  sub : Nat → List Nat
  F : Nat → Fn
section
variable (g : Cg) (X : Cx)
/-- an expression -/
structure JE (a : Expr) (e : E) : Prop where
  val : PE X a (tV g.R g.W (ev g.sub g.F e).val)
  plc : PE X a (tP g.R g.W (plOf e (ev g.sub g.F e).val))
  tst : PT X a (tT g.R g.W (ev g.sub g.F e).test)
/-- and, or: a test whatever its whole is -/
structure JB (a : Expr) (e : E) : Prop where
  val : PE X a (tV g.R g.W (ev g.sub g.F e).val)
  tst : PW X a (tT g.R g.W (ev g.sub g.F e).test)
def JA (as : List Expr) (es : Es) : Prop := PA X as (tA g.R g.W (evPs g.sub g.F es))
/-- the value's truth -/
def PlainT (a : Expr) : Prop := ∀ whole, isTrue a X.env whole = (do let v ← whole; standAt a.pos; holding [v] (truthy v))
end
section
variable {g : Cg} {X : Cx} {R : Rn} {W : WD} {σ : St} {e : Env} {H : Hp} {Ls : Nat → List Addr} {F : List Addr}

/-! ### truth -/
def rTruG : V → Hp → (Bool → Hp → Prop) → Prop := fun x H Q => ∃ (R : Rn) (B : Addr → Prop) (n : Nat) (d : D) (L : List Addr) (k : Bool), Rep R H B n d x L ∧ d.truth = some k ∧ Q k H
theorem tru_g : TruR X rTruG := by
  intro pins s σ H x v Q I rx h
  obtain ⟨R, B, n, d, L, k, r, hd, q⟩ := h
  refine tru_ok pins s σ H x v Q I rx ⟨k, ?_, q⟩
  cases d with
  | non =>
    simp only [Rep] at r
    rw [r.1]
    exact (Option.some.inj hd).symm
  | bl b => rw [r.bl]; exact (Option.some.inj hd).symm
  | int i => rw [r.int]; exact (Option.some.inj hd).symm
  | str x =>
    rw [r.str]
    simp only [D.truth] at hd
    split at hd
    · rename_i hz; exact ⟨hz, (Option.some.inj hd).symm⟩
    · cases hd
  | tup l =>
    simp only [Rep] at r
    obtain ⟨a, xs, rfl, e, nb, hr⟩ := r
    refine .inr (.inl ⟨xs, .of e, ?_⟩)
    rw [← Option.some.inj hd]
    have := hr.length
    cases xs <;> cases l <;> first | rfl | cases this
  | lst l =>
    have z : ∃ a xs, x = .ref a ∧ H a = some (.lst xs) ∧ xs.length = l.length := by
      cases n with
      | zero => simp only [Rep] at r; obtain ⟨a, xs, rfl, e, _, _, hr⟩ := r; exact ⟨a, xs, rfl, e, hr.length⟩
      | succ n => simp only [Rep] at r; obtain ⟨a, xs, L', rfl, e, _, hr⟩ := r; exact ⟨a, xs, rfl, e, hr.length⟩
    obtain ⟨a, xs, rfl, e, hl⟩ := z
    refine .inl ⟨xs, .of e, ?_⟩
    rw [← Option.some.inj hd]
    cases xs <;> cases l <;> first | rfl | cases hl
  | _ => cases hd
theorem pt_g {a : Expr} {ta : TE} (ha : PE X a ta) (he : PlainT X a) : PT X a (fun σ H Q => ta σ H fun x H' => rTruG x H' Q) := by
  refine ⟨fun pins s σ H Q I h => ?_⟩
  exact isTrue_plain (thn (ha.run pins s σ H _ I h) fun v s1 ⟨x, H1, I1, r1, q1⟩ => tru_g pins s1 σ H1 x v Q I1 r1 q1) (he _)

/-! ### from a value to a place, to a test -/
theorem no_V {H : Hp} {B : Addr → Prop} {F : List Addr} {Q : VK} : ¬ PostV R W σ H B F Q .no := fun z => z
theorem no_P {H : Hp} {B : Addr → Prop} {F : List Addr} {Q : VK} : ¬ PostP R W σ H B F Q .no := fun z => z
theorem no_A {H : Hp} {B : Addr → Prop} {F : List Addr} {Q : List V → Hp → Prop} : ¬ PostA R W σ H B F Q .no := fun z => z
theorem no_T {H : Hp} {B : Addr → Prop} {F : List Addr} {Q : Bool → Hp → Prop} : ¬ PostT R W σ H B F Q .no := fun z => z
theorem tP_of_tV {m : M (Nat × D)} {Q : VK} (h : tP R W (mb m fun r => pu (.t r.1 r.2)) σ H Q) : tV R W m σ H Q := by
  obtain ⟨e, Ls, F, G, h⟩ := h
  exact tV_then G h (fun _ _ z => z) no_P fun r e' v H' Ls' Lt hr s g x => hr v H' Ls' Lt s g x
/-- behind a temporary is let go -/
theorem Good.letgo {H0 : Hp} {B0 : Addr → Prop} {Lt : List Addr} (g : Good R σ e H Ls (Lt ++ F)) (st : Step H0 B0 H (Bn R Ls (Lt ++ F)) F) : Good R σ e H Ls F ∧ Step H0 B0 H (Bn R Ls F) F ∧ Step H (Bn R Ls (Lt ++ F)) H (Bn R Ls F) F := by
  have fd := List.nodup_append.mp g.fd
  obtain ⟨g', s'⟩ := g.drop (F' := F) (fun a z => List.mem_append_right _ z) fd.2.1
  refine ⟨g', ⟨st.ext, st.frm, fun a z => st.bn a ?_⟩, s'⟩
  rcases z with z | z
  · exact .inl (List.mem_append_right _ z)
  · exact .inr z
theorem tru_run {m : M Pl} {Q : Bool → Hp → Prop} (h : tT R W (mb m fun p => mb (rdP p) truthE) σ H Q) : tP R W m σ H fun x H' => rTruG x H' Q := by
  obtain ⟨e, Ls, F, G, h⟩ := h
  refine tP_then G h (fun _ _ z => z) no_T fun p e' v H' Ls' Lt hr s g pr => ?_
  obtain ⟨r, L', h2, rr⟩ := rdP_all g pr (all_mb.mp hr) no_T
  have h2 : (truthE r e').All (PostT R W σ H (Bn R Ls F) F Q) := h2
  cases hk : r.2.truth with
  | none =>
    unfold truthE at h2
    rw [hk] at h2
    exact h2.elim
  | some k =>
    unfold truthE at h2
    rw [hk] at h2
    obtain ⟨g2, s2, _⟩ := g.letgo s
    exact ⟨R, _, r.1, r.2, L', k, rr, hk, h2 H' Ls' s2 g2⟩
theorem JE.of {a : Expr} {e : E} (hv : PE X a (tV g.R g.W (ev g.sub g.F e).val)) (hp : ∀ m, plOf e m = mb m fun r => pu (.t r.1 r.2)) (ht : (ev g.sub g.F e).test = mb (plOf e (ev g.sub g.F e).val) fun p => mb (rdP p) truthE) (he : PlainT X a) : JE g X a e := by
  have hpl : PE X a (tP g.R g.W (plOf e (ev g.sub g.F e).val)) := by
    rw [hp]
    exact hv.imp fun σ H Q z => tP_of_tV z
  refine ⟨hv, hpl, ?_⟩
  rw [ht]
  exact (pt_g hpl he).imp fun σ H Q z => tru_run z

/-! ### names, constants -/
theorem je_v {i : Nat} {x : Str} {pos : Pos} (hN : X.N[i]? = some x := by rfl) (hv : Vis X.env.scope x := by first | exact Or.inl rfl | exact Or.inr (Or.inl rfl) | exact Or.inr (Or.inr rfl)) (hd : (x == ("__debug__" : Str)) = false := by decide) (hcd : (x == ("__classdict__" : Str)) = false := by decide) : JE g X (.Name x pos) (.v i) := by
  have h0 : PE X (.Name x pos) (tVar i) := pe_var hN hv hd hcd
  have hpl : PE X (.Name x pos) (tP g.R g.W (plOf (.v i) (ev g.sub g.F (.v i)).val)) := h0.imp fun σ H Q z => by
    obtain ⟨e, Ls, F, G, h⟩ := z
    obtain ⟨⟨n, d⟩, h1, h2⟩ := getE_all (all_mb.mp h) no_P
    obtain ⟨v, e1, rp⟩ := G.rep i n d h1
    exact ⟨v, e1, h2 v H Ls [] .refl G ⟨rfl, e1⟩⟩
  refine ⟨h0.imp fun σ H Q z => ?_, hpl, (pt_g hpl fun _ => rfl).imp fun σ H Q z => tru_run z⟩
  obtain ⟨e, Ls, F, G, h⟩ := z
  have h : (frzE i e).All (PostV g.R g.W σ H (Bn g.R Ls F) F Q) := h
  obtain ⟨⟨n, d⟩, h1, _⟩ := getE_all (P := fun r => r ≠ .no) (i := i) (e := e) (by
    unfold getE
    split
    · exact fun z => nomatch z
    · rename_i hz
      have z : frzE i e = .ret .no := by
        unfold frzE mb getE
        split
        · rename_i r hr; exact absurd hr (hz r)
        · rfl
      rw [z] at h
      exact h.elim) (fun z => z rfl)
  rw [frzE_ok h1] at h
  obtain ⟨v, e1, G', s, r0⟩ := G.give h1
  exact ⟨v, e1, h v H _ [] s G' r0⟩
/-- a datum that never changes -/
theorem tC_run {d : D} {v : V} {m : Nat} {Q : VK} (hr : ∀ (H : Hp) (B : Addr → Prop), Rep R H B m d v []) (h : tV R W (pu (m, d)) σ H Q) : tC v σ H Q := by
  obtain ⟨e, Ls, F, G, h⟩ := h
  exact h v H Ls [] .refl G (hr _ _)
theorem je_int {i : Int} {j : Nat} {pos : Pos} : JE g X (.Constant (.int i) j pos) (.c (.int i)) := .of (pe_int.imp fun σ H Q z => tC_run (by simp [Rep]) z) (fun _ => rfl) rfl fun _ => rfl
theorem je_bl {i : Bool} {j : Nat} {pos : Pos} : JE g X (.Constant (.bool i) j pos) (.c (.bl i)) := .of (pe_bl.imp fun σ H Q z => tC_run (by simp [Rep]) z) (fun _ => rfl) rfl fun _ => rfl
theorem je_non {j : Nat} {pos : Pos} : JE g X (.Constant .none j pos) (.c .non) := .of (pe_non.imp fun σ H Q z => tC_run (by simp [Rep]) z) (fun _ => rfl) rfl fun _ => rfl
theorem je_str {i : Str} {j : Nat} {pos : Pos} : JE g X (.Constant (.str i) j pos) (.c (.str i)) := .of (pe_str.imp fun σ H Q z => tC_run (by simp [Rep]) z) (fun _ => rfl) rfl fun _ => rfl
theorem je_gint {x : Str} {i : Int} {t : Tok} {pos : Pos} (hg : Gl X x) (hm : X.mg x = some (.int i t)) (hd : (x == ("__debug__" : Str)) = false := by decide) : JE g X (.Name x pos) (.g x (.int i)) := .of ((pe_glob hg hm (v := .int i) ⟨t, rfl⟩ hd).imp fun σ H Q z => tC_run (by simp [Rep]) z) (fun _ => rfl) rfl fun _ => rfl
theorem je_gstr {x : Str} {i : Str} {t : Tok} {pos : Pos} (hg : Gl X x) (hm : X.mg x = some (.str i t)) (hd : (x == ("__debug__" : Str)) = false := by decide) : JE g X (.Name x pos) (.g x (.str i)) := .of ((pe_glob hg hm (v := .str i) ⟨t, rfl⟩ hd).imp fun σ H Q z => tC_run (by simp [Rep]) z) (fun _ => rfl) rfl fun _ => rfl
end
end G

set_option maxHeartbeats 1000000
/-! G.Snd2: argument lists, operators, comparisons. -/
namespace G
open PySem L2 PyProof.Rows
section
variable {g : Cg} {X : Cx} {R : Rn} {W : WD} {σ : St} {e : Env} {H : Hp} {Ls : Nat → List Addr} {F : List Addr} {sub : Nat → List Nat}

theorem mb_assoc {α β γ : Type} {m : M α} {f : α → M β} {k : β → M γ} : mb (mb m f) k = mb m fun a => mb (f a) k := by
  funext e
  show ((m e).bind (mk f)).bind (mk k) = (m e).bind (mk fun a => mb (f a) k)
  rw [Tr.bind_assoc]
  congr
  funext r
  cases r <;> rfl
theorem mb_pu {α β : Type} {a : α} {f : α → M β} : mb (pu a) f = f a := rfl
/-- owned, in another order -/
theorem Good.two {L1 L2 : List Addr} (g : Good R σ e H Ls (L2 ++ (L1 ++ F))) : Good R σ e H Ls ((L1 ++ L2) ++ F) ∧ ∀ a, Bn R Ls ((L1 ++ L2) ++ F) a ↔ Bn R Ls (L2 ++ (L1 ++ F)) a :=
  g.perm (by rw [List.append_assoc]; exact List.perm_append_comm_assoc L2 L1 F)
theorem Step.iff {H' : Hp} {B B' B2 : Addr → Prop} {F : List Addr} (s : Step H B H' B' F) (h : ∀ a, B2 a ↔ B' a) : Step H B H' B2 F := ⟨s.ext, s.frm, fun a z => s.bn a ((h a).mp z)⟩
theorem Step.of_iff {H : Hp} {B B' : Addr → Prop} {F : List Addr} (h : ∀ a, B' a ↔ B a) : Step H B H B' F := ⟨fun _ _ e _ => e, fun _ _ => rfl, fun a z => .inl ((h a).mp z)⟩
/-- the end of two steps: what is wanted at last -/
theorem Step.two {H0 H1 H2 : Hp} {B0 : Addr → Prop} {Ls1 Ls2 : Nat → List Addr} {L1 L2 : List Addr} (s : Step H0 B0 H1 (Bn R Ls1 (L1 ++ F)) F) (t : Step H1 (Bn R Ls1 (L1 ++ F)) H2 (Bn R Ls2 (L2 ++ (L1 ++ F))) (L1 ++ F)) (h : ∀ a, Bn R Ls2 ((L1 ++ L2) ++ F) a ↔ Bn R Ls2 (L2 ++ (L1 ++ F)) a) :
    Step H0 B0 H2 (Bn R Ls2 ((L1 ++ L2) ++ F)) F := (s.trans t fun a z => List.mem_append_right _ z).iff h
theorem ErrK.by {H0 : Hp} {B0 : Addr → Prop} {L1 : List Addr} {Ls1 : Nat → List Addr} {x : D} {e' : Env} (st : Step H0 B0 H (Bn R Ls1 (L1 ++ F)) F) (h : ErrK R W σ H0 B0 F x e') : ErrK R W σ H (Bn R Ls1 (L1 ++ F)) (L1 ++ F) x e' := fun H' Ls' s g => by
  obtain ⟨g2, s2, s3⟩ := g.letgo (Lt := L1) (F := F) (st.trans s fun a z => List.mem_append_right _ z)
  exact fun cls dd x => h H' Ls' s2 g2 cls dd (x.by s3)

/-! ### argument lists -/
theorem tA_nil {Q : List V → Hp → Prop} (h : tA R W (pu []) σ H Q) : tNil σ H Q := by
  obtain ⟨e, Ls, F, G, h⟩ := h
  exact h [] H Ls [] .refl G ⟨rfl, rfl⟩
theorem tA_cons {pa : M Pl} {ma : M (List Pl)} {Q : List V → Hp → Prop} (h : tA R W (mb pa fun p => mb ma fun ps => pu (p :: ps)) σ H Q) : tCons (tP R W pa) (tA R W ma) σ H Q := by
  obtain ⟨e, Ls, F, G, h⟩ := h
  refine tP_then G h (fun _ _ z => z) no_A fun p e1 v H1 Ls1 L1 h1 s1 g1 p1 => ?_
  refine tA_then g1 h1 (fun x e' z => z.by s1) no_A fun ps e2 vs H2 Ls2 L2 h2 s2 g2 p2 => ?_
  obtain ⟨g3, hb⟩ := g2.two
  refine h2 (v :: vs) H2 Ls2 (L1 ++ L2) (s1.two s2 hb) g3 ⟨v, vs, L1, L2, rfl, rfl, ?_, ?_⟩
  · exact (p1.by s2 fun a z => s2.frm a (List.mem_append_left _ z)).by (Step.of_iff (F := []) hb) fun _ _ => rfl
  · exact p2.by (Step.of_iff (F := []) hb) fun _ _ => rfl
theorem ja_nil : JA g X [] .nil := PA.imp pa_nil fun σ H Q z => tA_nil z
theorem ja_cons {a : Expr} {as : List Expr} {x : E} {xs : Es} (ha : JE g X a x) (hr : JA g X as xs) (hs : starEach (a :: as) X.env = (false, eval a X.env) :: starEach as X.env := by rfl) : JA g X (a :: as) (.cons x xs) :=
  PA.imp (pa_cons ha.plc hr hs) fun σ H Q z => tA_cons z
theorem tA_mono {ma : M (List Pl)} {Q Q' : List V → Hp → Prop} (h : tA R W ma σ H Q) (f : ∀ vs H, Q vs H → Q' vs H) : tA R W ma σ H Q' := by
  obtain ⟨e, Ls, F, G, h⟩ := h
  refine ⟨e, Ls, F, G, h.mono fun r hr => ?_⟩
  cases r with
  | ok p e => exact fun vs H' Ls' Lt s g x => f _ _ (hr vs H' Ls' Lt s g x)
  | err x e => exact hr
  | no => exact hr
theorem tV_mono {ma : M (Nat × D)} {Q Q' : VK} (h : tV R W ma σ H Q) (f : ∀ vs H, Q vs H → Q' vs H) : tV R W ma σ H Q' := by
  obtain ⟨e, Ls, F, G, h⟩ := h
  refine ⟨e, Ls, F, G, h.mono fun r hr => ?_⟩
  cases r with
  | ok p e => exact fun vs H' Ls' Lt s g x => f _ _ (hr vs H' Ls' Lt s g x)
  | err x e => exact hr
  | no => exact hr
theorem tP_mono {ma : M Pl} {Q Q' : VK} (h : tP R W ma σ H Q) (f : ∀ vs H, Q vs H → Q' vs H) : tP R W ma σ H Q' := by
  obtain ⟨e, Ls, F, G, h⟩ := h
  refine ⟨e, Ls, F, G, h.mono fun r hr => ?_⟩
  cases r with
  | ok p e => exact fun vs H' Ls' Lt s g x => f _ _ (hr vs H' Ls' Lt s g x)
  | err x e => exact hr
  | no => exact hr

/-! ### operations -/
def AtX (R : Rn) (σ : St) (sub : Nat → List Nat) (o : B) (vs : List V) (H : Hp) (Q : VK) : Prop := ∃ e Ls F, At R σ e H Ls F sub o vs Q
theorem op_run {ma : M (List Pl)} {o : B} {Q : VK} (h : tV R W (mb ma fun ps => bopE sub o ps) σ H Q) : tA R W ma σ H fun vs H' => AtX R σ sub o vs H' Q := by
  obtain ⟨e, Ls, F, G, h⟩ := h
  refine tA_then G h (fun _ _ z => z) no_V fun ps e1 vs H1 Ls1 L1 h1 s1 g1 p1 => ?_
  exact ⟨e1, Ls1, L1 ++ F, bop_run g1 p1 s1 h1, g1⟩
theorem tA_1 {pa : M Pl} {P : List V → Hp → Prop} (h : tA R W (mb pa fun p => mb (pu []) fun ps => pu (p :: ps)) σ H P) : tP R W pa σ H fun x H1 => P [x] H1 :=
  tP_mono (tA_cons h) fun x H z => tA_nil z
theorem tA_2 {pa pb : M Pl} {P : List V → Hp → Prop} (h : tA R W (mb pa fun p => mb (mb pb fun p => mb (pu []) fun ps => pu (p :: ps)) fun ps => pu (p :: ps)) σ H P) : tP R W pa σ H fun x H1 => tP R W pb σ H1 fun y H2 => P [x, y] H2 :=
  tP_mono (tA_cons h) fun x H z => tA_1 z
theorem tA_3 {pa pb pc : M Pl} {P : List V → Hp → Prop} (h : tA R W (mb pa fun p => mb (mb pb fun p => mb (mb pc fun p => mb (pu []) fun ps => pu (p :: ps)) fun ps => pu (p :: ps)) fun ps => pu (p :: ps)) σ H P) :
    tP R W pa σ H fun x H1 => tP R W pb σ H1 fun y H2 => tP R W pc σ H2 fun z H3 => P [x, y, z] H3 :=
  tP_mono (tA_cons h) fun x H z => tA_2 z
theorem b2_run {x y : E} {o : B} {r : R2} {Q : VK} (hat : ∀ {e H Ls F x y Q}, At g.R σ e H Ls F g.sub o [x, y] Q → r x y H Q) (h : tV g.R g.W (ev g.sub g.F (.b o (.cons x (.cons y .nil)))).val σ H Q) :
    tOp r (tP g.R g.W (plOf x (ev g.sub g.F x).val)) (tP g.R g.W (plOf y (ev g.sub g.F y).val)) σ H Q := by
  have h1 := tA_mono (Q' := fun vs H' => ∀ x y, vs = [x, y] → r x y H' Q) (op_run (o := o) h) fun vs H' z x y e => by
    obtain ⟨_, _, _, z⟩ := z
    subst e
    exact hat z
  exact tP_mono (tA_2 h1) fun x H1 z => tP_mono z fun y H2 z => z x y rfl
theorem je_bin {a b : Expr} {x y : E} {o : B} {r : R2} {op : Operator} {pos : Pos} (ho : OpR X (binaryOp op) r) (hat : ∀ {e H Ls F x y Q} {σ : St}, At g.R σ e H Ls F g.sub o [x, y] Q → r x y H Q) (ha : JE g X a x) (hb : JE g X b y) : JE g X (.BinOp a op b pos) (.b o (.cons x (.cons y .nil))) :=
  .of ((pe_op ho ha.plc hb.plc).imp fun σ H Q z => b2_run hat z) (fun _ => rfl) rfl fun _ => rfl
section
variable {a b : Expr} {x y : E} {pos : Pos}
theorem je_add (ha : JE g X a x) (hb : JE g X b y) : JE g X (.BinOp a .Add b pos) (.b .add (.cons x (.cons y .nil))) := je_bin or_add at_add ha hb
theorem je_sub (ha : JE g X a x) (hb : JE g X b y) : JE g X (.BinOp a .Sub b pos) (.b .sub (.cons x (.cons y .nil))) := je_bin op_sub at_sub ha hb
theorem je_mul (ha : JE g X a x) (hb : JE g X b y) : JE g X (.BinOp a .Mult b pos) (.b .mul (.cons x (.cons y .nil))) := je_bin or_mul at_mul ha hb
theorem je_fdiv (ha : JE g X a x) (hb : JE g X b y) : JE g X (.BinOp a .FloorDiv b pos) (.b .fdiv (.cons x (.cons y .nil))) := je_bin op_fdiv at_fdiv ha hb
theorem je_mod (ha : JE g X a x) (hb : JE g X b y) : JE g X (.BinOp a .Mod b pos) (.b .mod (.cons x (.cons y .nil))) := je_bin op_mod at_mod ha hb
theorem je_pow (ha : JE g X a x) (hb : JE g X b y) : JE g X (.BinOp a .Pow b pos) (.b .pow (.cons x (.cons y .nil))) := je_bin op_pow at_pow ha hb
end

/-! ### comparisons -/
/-- a comparison's answer is a bool -/
def BoolR (r : R2) : Prop := ∀ x y H Q Q', (∀ b H, Q (V.bl b) H → Q' (V.bl b) H) → r x y H Q → r x y H Q'
theorem br_I {p : Int → Int → Bool} : BoolR (rI0 fun i j => .bl (p i j)) := fun x y H Q Q' f ⟨i, j, e1, e2, q⟩ => ⟨i, j, e1, e2, f _ _ q⟩
theorem br_eq {neg : Bool} : BoolR (rEqG neg) := fun x y H Q Q' f ⟨R, B, n1, d1, L1, n2, d2, L2, b, h1, h2, hb, q⟩ => ⟨R, B, n1, d1, L1, n2, d2, L2, b, h1, h2, hb, f _ _ q⟩
theorem br_in {neg : Bool} : BoolR (rInG neg) := fun x y H Q Q' f ⟨R, B, n1, d1, L1, n2, d2, L2, l, b, h1, h2, hd, hb, q⟩ => ⟨R, B, n1, d1, L1, n2, d2, L2, l, b, h1, h2, hd, hb, f _ _ q⟩
theorem rep_bl {R : Rn} {H : Hp} {B : Addr → Prop} {n : Nat} {d : D} {b : Bool} {L : List Addr} (h : Rep R H B n d (.bl b) L) : d = .bl b := by
  cases d with
  | non => simp only [Rep] at h; cases h.1
  | bl c => have := h.bl; cases this; rfl
  | int i => cases h.int
  | str x => cases h.str
  | tup l => simp only [Rep] at h; obtain ⟨a, xs, e, _⟩ := h; cases e
  | lst l =>
    cases n with
    | zero => simp only [Rep] at h; obtain ⟨a, xs, e, _⟩ := h; cases e
    | succ n => simp only [Rep] at h; obtain ⟨a, xs, L', e, _⟩ := h; cases e
  | dct l =>
    cases n with
    | zero => simp only [Rep] at h; obtain ⟨a, es, ep, e, _⟩ := h; cases e
    | succ n => simp only [Rep] at h; obtain ⟨a, es, ep, L', e, _⟩ := h; cases e
  | rnd => simp only [Rep] at h; obtain ⟨_, r, _, e⟩ := h; cases e
  | scr l => simp only [Rep] at h; obtain ⟨_, a, e, _⟩ := h; cases e
  | set l => obtain ⟨a, ns, e, _⟩ := h.setAt; cases e
  | clo k c => simp only [Rep] at h; obtain ⟨_, f, e, _⟩ := h; cases e
  | _ => simp [Rep] at h
theorem tru_bl {b : Bool} {H : Hp} {Q : Bool → Hp → Prop} (h : rTruG (.bl b) H Q) : Q b H := by
  obtain ⟨R, B, n, d, L, k, r, hd, q⟩ := h
  have z : d = .bl b := rep_bl r
  subst z
  cases hd
  exact q
theorem je_cmp {a b : Expr} {x y : E} {o : B} {r : R2} {op : CmpOp} {pos : Pos} (ho : OpR X (compareOp op) r) (hr : BoolR r) (hat : ∀ {e H Ls F x y Q} {σ : St}, At g.R σ e H Ls F g.sub o [x, y] Q → r x y H Q) (ha : JE g X a x) (hb : JE g X b y) (hm : behindInMarks op b = false) :
    JE g X (.Compare a [op] [b] pos) (.b o (.cons x (.cons y .nil))) := by
  have hv : PE X (.Compare a [op] [b] pos) (tV g.R g.W (ev g.sub g.F (.b o (.cons x (.cons y .nil)))).val) := (pe_cmpR ho ha.plc hb.plc hm).imp fun σ H Q z => b2_run hat z
  refine ⟨hv, hv.imp fun σ H Q z => tP_of_tV z, (pt_cmpR ho ha.plc hb.plc hm).imp fun σ H Q z => ?_⟩
  refine tP_mono (b2_run hat (tP_of_tV (tru_run z))) fun x H1 z => tP_mono z fun y H2 z => hr x y H2 _ _ (fun b H q => ?_) z
  exact ⟨b, rfl, tru_bl q⟩
section
variable {a b : Expr} {x y : E} {pos : Pos}
theorem je_lt (ha : JE g X a x) (hb : JE g X b y) (hm : behindInMarks .Lt b = false := by exact nobehind _ (by decide) (by decide)) : JE g X (.Compare a [.Lt] [b] pos) (.b .lt (.cons x (.cons y .nil))) := je_cmp op_lt br_I at_lt ha hb hm
theorem je_le (ha : JE g X a x) (hb : JE g X b y) (hm : behindInMarks .LtE b = false := by exact nobehind _ (by decide) (by decide)) : JE g X (.Compare a [.LtE] [b] pos) (.b .le (.cons x (.cons y .nil))) := je_cmp op_le br_I at_le ha hb hm
theorem je_gt (ha : JE g X a x) (hb : JE g X b y) (hm : behindInMarks .Gt b = false := by exact nobehind _ (by decide) (by decide)) : JE g X (.Compare a [.Gt] [b] pos) (.b .gt (.cons x (.cons y .nil))) := je_cmp op_gt br_I at_gt ha hb hm
theorem je_ge (ha : JE g X a x) (hb : JE g X b y) (hm : behindInMarks .GtE b = false := by exact nobehind _ (by decide) (by decide)) : JE g X (.Compare a [.GtE] [b] pos) (.b .ge (.cons x (.cons y .nil))) := je_cmp op_ge br_I at_ge ha hb hm
theorem je_eq (C : Cok X) (ha : JE g X a x) (hb : JE g X b y) (hm : behindInMarks .Eq b = false := by exact nobehind _ (by decide) (by decide)) : JE g X (.Compare a [.Eq] [b] pos) (.b .eq (.cons x (.cons y .nil))) := je_cmp (or_eq C) br_eq at_eq ha hb hm
theorem je_ne (C : Cok X) (ha : JE g X a x) (hb : JE g X b y) (hm : behindInMarks .NotEq b = false := by exact nobehind _ (by decide) (by decide)) : JE g X (.Compare a [.NotEq] [b] pos) (.b .ne (.cons x (.cons y .nil))) := je_cmp (or_ne C) br_eq at_ne ha hb hm
end
end
end G

set_option maxHeartbeats 1000000
/-! G.OpsD: dicts: their length, their keys as a list. -/
namespace G
open PySem L2 PyProof.Rows
section
variable {P : Program} {w : World} {A : Around} {E : Value → Shared → Prop} {s : Shared}
theorem rawLen (d : Addr) (hd : (d == sysModules) = false) : MeetsIn P w (Builtin.«dict.__len__» ⟨[.ref d], []⟩) (fun _ R s =>
    ∃ (o : Obj) (es : Array DictEntry) (ep : Nat), s.heap.get? d = some o ∧ o.data = .dict es ep ∧ R (.ok (.ret (.int es.size s.toks))) { s with toks := s.toks + 1 }) :=
  .of_wp fun A R s ⟨o, es, ep, h1, h2, h⟩ => by
    show wpAny _ _ (dictSize d >>= _) _ _ s
    unfold dictSize
    exact wpAny_bind (wpAny_bind (wpAny_dictEntries h1 h2 (wpAny_pure (wpAny_bind
      (wpAny_pendingCount_other hd (wpAny_ret_mkInt (by rw [Nat.add_zero]; exact h)))))))
theorem callRawLen {d : Addr} {o : Obj} {es : Array DictEntry} {ep : Nat} {Q : Value → Shared → Prop} (hd : (d == sysModules) = false) (h1 : s.heap.get? d = some o) (hx : o.ExactDict) (h2 : o.data = .dict es ep) (hf : (es.size : Int) < 2 ^ 63)
    (h : Q (.int es.size (s.toks + 1)) { s with toks := s.toks + 1 + 1 }) : wpAny (model P w) A (call (.builtin "len") [.ref d]) Q E s := by
  refine Calls.call_function_entry kind_len plain_len entry_len (args_len1 _) ?_
  unfold Builtin.«len»
  refine wpAny_bind (m := oneArg "len" _) (wpAny_pure (wpAny_bind (m := callSpecial? (.ref d) (Str.ofString "__len__")) ?_))
  refine wpAny_callSpecial?_slot (name := Str.ofString "__len__") ⟨o, h1, hx.1⟩ F.slot_dict_len ?_
  refine call_meetsIn F.slot_dict_len ⟨o, h1, hx.1⟩ F.entry_dict_len (F.args_dict_len_1 _) (rawLen d hd) ⟨o, es, ep, h1, h2, ?_⟩
  show wpAny _ _ _ _ _ { s with toks := s.toks + 1 }
  refine wpAny_bind (wpAny_holding (wpAny_pure (wpAny_bind (wpAny_letGo ?_))))
  show wpAny _ _ (if ((es.size : Nat) : Int) < 0 then _ else _) _ _ _
  rw [if_neg (show ¬ ((es.size : Nat) : Int) < 0 by omega)]
  show wpAny _ _ (if ((es.size : Nat) : Int) ≥ 2 ^ 63 then _ else _) _ _ _
  rw [if_neg (show ¬ ((es.size : Nat) : Int) ≥ 2 ^ 63 by omega)]
  exact wpAny_bind (wpAny_mkInt (wpAny_pure ⟨_, rfl, h⟩))
end
section
variable {R : Rn} {σ : St} {e : Env} {H : Hp} {Ls : Nat → List Addr} {F : List Addr} {X : Cx} {sub : Nat → List Nat}
theorem Paired.len {α β : Type} {f : α → β → Prop} {l : List α} {m : List β} (h : Paired f l m) : l.length = m.length := Paired.length h
def rLenD : List V → Hp → VK → Prop := fun xs H Q => ∃ (w : World) (a : Addr) (es : List (NestedKey × V × V)) (ep : Nat), xs = [.ref a] ∧ H a = some (DicO w a es ep) ∧ Q (.int es.length) H
theorem cr_lenD : CallR X (.builtin "len") rLenD := by
  intro pins s σ H xs us Q I r h
  obtain ⟨w, a, es, ep, rfl, ha, q⟩ := h
  obtain ⟨u, rfl, ru⟩ := vals1 r
  obtain rfl : u = .ref a := ru
  obtain ⟨⟨o, des, h1, h2, h3, h4, h5, h6, h7⟩, _⟩ := I.hok a _ ha
  have hl : es.length = des.size := by rw [Paired.len h7]; simp
  have hz := sizeLine_eq
  refine callRawLen h4 h1 h2 h3 (by omega) ⟨.int es.length, H, I.tok _, ⟨_, by rw [hl]⟩, q⟩
/-- len of a set -/
def rLenSt : List V → Hp → VK → Prop := fun xs H Q => ∃ (w : World) (a : Addr) (S : Int → Bool) (n : Nat), xs = [.ref a] ∧ H a = some (SetO w a S n) ∧ Q (.int n) H
theorem cr_lenSt : CallR X (.builtin "len") rLenSt := by
  intro pins s σ H xs us Q I r h
  obtain ⟨w, a, S, n, rfl, ha, q⟩ := h
  obtain ⟨u, rfl, ru⟩ := vals1 r
  obtain rfl : u = .ref a := ru
  obtain ⟨⟨o, es, ep, t, h1, h2, h3, _, _, _, h4, h5, h6, _⟩, _⟩ := I.hok a _ ha
  refine call_len_set h1 h2 h3 h5 (by unfold scanBound at h4; omega) ⟨.int n, H, I.tok _, ⟨_, by rw [h6]⟩, q⟩
def rLenG (K : PySem.W.Frag) : List V → Hp → VK → Prop := fun xs H Q => rLenA K xs H Q ∨ rLenD xs H Q ∨ rLenSt xs H Q
theorem cr_lenG : CallR X (.builtin "len") (rLenG X.K) := cr_len.or (cr_lenD.or cr_lenSt)
theorem at_lenG {vs : List V} {Q : VK} (h : At R σ e H Ls F sub .len vs Q) : rLenG X.K vs H Q := by
  rcases at_len (X := X) h with h | ⟨l, a, es, ep, rfl, ha, hl, q⟩ | ⟨a, ns, rfl, ha, q⟩
  · exact .inl h
  · exact .inr (.inl ⟨R.w, a, es, ep, rfl, ha, by rw [hl]; exact q⟩)
  · exact .inr (.inr ⟨R.w, a, _, _, rfl, ha, q⟩)
/-- list(d) -/
def rListD : List V → Hp → VK → Prop := fun xs H Q => ∃ (w : World) (a : Addr) (es : List (NestedKey × V × V)) (ep : Nat), xs = [.ref a] ∧ H a = some (DicO w a es ep) ∧ ∀ l, H l = none → Q (.ref l) (upd H l (.lst (es.map fun p => p.2.1)))
theorem paired_get {α β : Type} {f : α → β → Prop} : ∀ {l : List α} {m : List β}, Paired f l m → ∀ {i : Nat} {x : α}, l[i]? = some x → ∃ y, m[i]? = some y ∧ f x y
  | _, _, .nil, i, x, h => by simp at h
  | _, _, .cons a b, 0, x, h => by simp at h; subst h; exact ⟨_, rfl, a⟩
  | _, _, .cons a b, i + 1, x, h => by
    obtain ⟨y, h1, h2⟩ := paired_get b (show _ = _ by simpa using h)
    exact ⟨y, by simpa using h1, h2⟩
theorem vals_of {us : List Value} {xs : List V} (hl : us.length = xs.length) (h : ∀ (i : Nat) (x : V), xs[i]? = some x → ∃ u, us[i]? = some u ∧ RelV x u) : Vals xs us := by
  induction xs generalizing us with
  | nil => cases us with
    | nil => exact .nil
    | cons u us => simp at hl
  | cons x xs ih => cases us with
    | nil => simp at hl
    | cons u us =>
      obtain ⟨u', h1, h2⟩ := h 0 x rfl
      simp at h1
      subst h1
      exact .cons h2 (ih (by simpa using hl) fun i y hy => by
        obtain ⟨u, h1, h2⟩ := h (i + 1) y (by simpa using hy)
        exact ⟨u, by simpa using h1, h2⟩)
theorem cr_listD (C : Cok X) : CallR X (.type "list") rListD := by
  intro pins s σ H xs us Q I r h
  obtain ⟨w, a, es, ep, rfl, ha, q⟩ := h
  obtain ⟨u, rfl, ru⟩ := vals1 r
  obtain rfl : u = .ref a := ru
  obtain ⟨⟨o, des, h1, h2, h3, h4, h5, h6, h7⟩, _⟩ := I.hok a _ ha
  have hl : es.length = des.size := by rw [Paired.len h7]; simp
  refine PySem.W.kdl_call (kdl_raw h4 h2 h3) (I.ok.hd C.calm) h1 (by omega) fun h' tk acc' c' kp e it => ?_
  have hal : acc'.toList.length = (es.map fun p => p.2.1).length := by rw [Array.length_toList, it.1, List.length_map]; exact hl.symm
  have rv : Vals (es.map fun p => p.2.1) acc'.toList := vals_of hal fun i x hx => by
    rw [List.getElem?_map, Option.map_eq_some_iff] at hx
    obtain ⟨p, hp, rfl⟩ := hx
    obtain ⟨en, hen, r1, r2, r3⟩ := paired_get h7 hp
    have hi : i < acc'.toList.length := by rw [hal, List.length_map]; exact (List.getElem?_eq_some_iff.mp hp).1
    refine ⟨acc'.toList[i], List.getElem?_eq_getElem hi, ?_⟩
    obtain ⟨en', hen', hv⟩ := it.2 i _ (by rw [← Array.getElem?_toList]; exact List.getElem?_eq_getElem hi)
    rw [← Array.getElem?_toList, hen] at hen'
    cases hen'
    rw [hv]
    exact r1
  have hz : (es.map fun p => p.2.1).length ≤ sizeLine := by rw [List.length_map]; exact h5
  refine ⟨.ref s.heap.objs.size, _, I.laid (t' := tk) (o := .lst (es.map fun p => p.2.1)) kp (Nat.le_refl _) ?_, rfl, q _ (I.hok.fresh (Nat.le_refl _))⟩
  exact ⟨hz, acc'.toList, c', rv, by rw [Array.toArray_toList]; exact e⟩
theorem RepK.keys {B : Addr → Prop} : ∀ {n : Nat} {l : List (D × D)} {es : List (NestedKey × V × V)} {L : List Addr}, RepK R H B n l es L → Reps R H B 0 (l.map (·.1)) (es.map fun p => p.2.1) []
  | _, [], es, L, h => by
    simp only [RepK] at h
    rw [h.1]
    exact .nil
  | n, (k, d) :: r, es, L, h => by
    simp only [RepK] at h
    obtain ⟨nk, kv, v, es', L1, L2, rfl, rfl, hk, h0, h1, h2⟩ := h
    exact .cons h0 (RepK.keys h2)
def rListG (K : PySem.W.Frag) : List V → Hp → VK → Prop := fun xs H Q => rListA K xs H Q ∨ rListD xs H Q
theorem cr_listG (C : Cok X) : CallR X (.type "list") (rListG X.K) := call_list_of.or (cr_listD C)
theorem at_listG {vs : List V} {Q : VK} (h : At R σ e H Ls F sub .list vs Q) : rListG X.K vs H Q := by
  rcases at_list (X := X) h with h | ⟨l, a, es, ep, rfl, ha, hr, k, g⟩
  · exact .inl h
  · exact .inr ⟨R.w, a, es, ep, rfl, ha, k.newL g hr.keys⟩
end
end G

set_option maxHeartbeats 4000000
/-! G.SetL: set(xs) of a list of ints, with its places. -/
namespace L2
open PySem PySem.Spec PyProof.Rows
section
variable {P : Program} {w : World} {A : Around} {E : Value → Shared → Prop} {s : Shared}
/-- an empty set, as it is made -/
abbrev emS (w : World) : Obj :=
  { cls := .type "set", dict := none,
    data := .set #[] 0 (.fresh 0 0 (!w.params.followText "set-order")) }
theorem set_lstI {l : Addr} {items : Array Value} (ns : List Int) {Q : Value → Shared → Prop}
    (hh : A.handled = none) (hl : s.heap.IsList l items) (hit : IntsAre items.toList ns) (hb : ns.length + 1 < scanBound)
    (h : ∀ (h' : Heap) (tk c : Nat), SetR w h' s.heap.objs.size (fun j => decide (j ∈ ns)) c → c ≤ ns.length →
      (∀ b o, s.heap.get? b = some o → h'.get? b = some o) →
      Q (.ref s.heap.objs.size) { s with heap := h', toks := tk }) :
    wpAny (model P w) A (call (.type "set") [.ref l]) Q E s := by
  have isz : items.size = ns.length := (Array.length_toList ..).symm.trans (IntsAre.length hit)
  obtain ⟨_, _, mro⟩ := F.called_set.mro
  have made := F.called_set.made
  have sub0 := F.called_set.sub
  refine wpAny_call (codeAny_of_tree (wpAny_pure ⟨Code.quiet_builtin _ (by decide +kernel), codeAny_builtin F.entry_type_call ?_⟩))
  rw [Around.under_plain (weight_type_call_type "set" [.ref l] []) rfl]
  have notT := F.called_set.notType
  have canC := F.called_set.canCreate
  have call1 := F.typeCall_set_1 (.ref l)
  repeat (any_goals (first | assumption | wp_step))
  refine codeAny_mono (code_set_led1 (.ref l) (E := E)
    (Q₁ := fun obj s₁ => obj = .ref s.heap.objs.size ∧ s₁ = { s with heap := s.heap.push (emS w) }) ⟨rfl, rfl⟩) fun r s₁ hr => ?_
  match r, hr with
  | .error e, hr => exact hr
  | .ok .next, hr => exact hr.elim
  | .ok .brk, hr => exact hr.elim
  | .ok .cont, hr => exact hr.elim
  | .ok (.ret obj), hr =>
    obtain ⟨rfl, rfl⟩ := hr
    have gS : (s.heap.push (emS w)).get? s.heap.objs.size = some (emS w) := Heap.get?_push_size _ rfl
    have tS : Shared.TypeIs { s with heap := s.heap.push (emS w) } (.ref s.heap.objs.size) "set" := ⟨_, gS, rfl⟩
    have ini := F.called_set.init.lookup
    have inb := F.called_set.init.bind (.ref s.heap.objs.size)
    repeat (any_goals (first | assumption | wp_step))
    refine codeAny_mono (codeAny_call_builtin
      (R := wants (fun r s₂ => r = .none ∧ ∃ h' tk c, s₂ = { s with heap := h', toks := tk } ∧
        SetR w h' s.heap.objs.size (fun j => decide (j ∈ ns)) c ∧ c ≤ ns.length ∧ (∀ b o, s.heap.get? b = some o → h'.get? b = some o)) E)
      F.called_set.init.plain F.entry_set_init (check_set_init_1 tS ?_)) fun r₂ s₂ hr₂ => ?_
    · obtain ⟨⟨oc, od, oda, osl⟩, hol, hc, nl, hd⟩ := hl
      simp only at hc hd
      subst hc hd
      have hol2 : (s.heap.push (emS w)).get? l = some { cls := .type "list", dict := od, data := .seq items nl, slots := osl } := Heap.get?_push_of_some _ hol
      have q1 := F.sub_list_set
      have q2 := F.sub_list_frozenset
      have q3 : (Value.type "list" == Value.type "dict") = false := by decide
      have l1 : (s.heap.push (emS w)).IsList l items := ⟨_, hol2, rfl, nl, rfl⟩
      unfold Builtin.«set.__init__» noKeywords Builtin.Frozenset.updateFrom
      generalize hPI : pyIter = PI
      wp_walk
      subst hPI
      refine wpAny_pyIter_list l1 (wpAny_bind (wpAny_runValue ?_))
      have lt : l < s.heap.objs.size := Heap.lt_size hol
      have hh3 : A.in1.in1.in1.handled = none := by simp [hh]
      have zz : (s.heap.push (emS w)).objs.size = s.heap.objs.size + 1 := Heap.size_push ..
      have ne1 : l ≠ (s.heap.push (emS w)).objs.size := by rw [zz]; exact Nat.ne_of_lt (Nat.lt_succ_of_lt lt)
      have ne2 : s.heap.objs.size ∉ [(s.heap.push (emS w)).objs.size, l] := by
        simp only [List.mem_cons, List.not_mem_nil, or_false, not_or]
        exact ⟨by rw [zz]; exact Nat.ne_of_lt (Nat.lt_succ_self _), Nat.ne_of_gt lt⟩
      have val : ∀ (i : Nat) (v : Value), items[i]? = some v → ∃ k t, ns[i]? = some k ∧ v = .int k t := fun i v hv => by
        have hi : i < ns.length := isz ▸ (Array.getElem?_eq_some_iff.mp hv).1
        obtain ⟨t, e⟩ := PyProof.Rows.IntsAre.int_at hit i v (by rw [Array.getElem?_toList]; exact hv)
        have e2 : ns[i]? = some ns[i] := List.getElem?_eq_getElem hi
        refine ⟨ns[i], t, e2, e.trans ?_⟩
        rw [List.getD_eq_getElem?_getD, e2]
        rfl
      refine set_update_ints ((Walks.list hh3 _ l ne1 items).toS) s.heap.objs.size ne2 ns isz hb val (items.size - 0) 0 _ (by omega) (Nat.zero_le _)
        ⟨⟨_, Heap.get?_push_size _ rfl, rfl, rfl⟩, l1.push _⟩ ?st ?en
      case st => exact ⟨0, Nat.le_refl 0, setR_new_at (Heap.get?_push_of_some _ gS)⟩
      case en =>
        intro s' c' hm hc' hS'
        obtain ⟨h', g2, d', tk', os'⟩ := s'
        obtain rfl : g2 = s.gens := hm.gens
        obtain rfl : d' = s.drawn := hm.drawn
        obtain rfl : os' = s.os := hm.os
        show wpAny _ _ _ _ _ _
        refine wpAny_pure ?_
        show wpAny _ _ (ret Value.none) _ _ _
        rw [isz] at hc'
        refine wpAny_pure ⟨rfl, h', tk', c', rfl, hS', hc', fun b o e => ?_⟩
        have lt0 : b < s.heap.objs.size := Heap.lt_size e
        refine hm.heap b o ?_ (Heap.get?_push_of_some _ (Heap.get?_push_of_some _ e))
        simp only [List.mem_cons, List.not_mem_nil, or_false, not_or]
        exact ⟨Nat.ne_of_lt lt0, by rw [zz]; exact Nat.ne_of_lt (Nat.lt_succ_of_lt lt0)⟩
    · match r₂, hr₂ with
      | .error e, hr₂ => exact hr₂
      | .ok .next, hr₂ => exact hr₂.elim
      | .ok .brk, hr₂ => exact hr₂.elim
      | .ok .cont, hr₂ => exact hr₂.elim
      | .ok (.ret r), hr₂ =>
        obtain ⟨rfl, h', tk, c', rfl, hS', hc', hk'⟩ := hr₂
        repeat (any_goals (first | assumption | wp_step))
        exact h _ _ _ hS' hc' hk'
end
end L2

set_option maxHeartbeats 1000000
/-! G.OpsS: sets of ints; sorted. -/
namespace L2
open PySem PySem.Spec PyProof.Rows
section
variable {P : Program} {w : World} {A : Around} {E : Value → Shared → Prop} {s : Shared}
/-- a tuple's items, gathered -/
theorem gather_tup {l : Addr} {us : List Value} {Q : List Value → Shared → Prop} (ht : s.heap.IsTuple l us.toArray) (hz : us.length ≤ sizeLine)
    (k : Q us { s with heap := (s.heap.push (seqObj "list" #[] 0)).update s.heap.objs.size (Obj.mapSeq (· ++ us.toArray)) }) : wpAny (model P w) A (collect (.ref l)) Q E s := by
  obtain ⟨ob, hob, hcl, m, hda⟩ := id ht
  have hob2 : (s.heap.push (seqObj "list" #[] 0)).get? l = some ob := Heap.get?_push_of_some _ hob
  have hnew : (s.heap.push (seqObj "list" #[] 0)).get? s.heap.objs.size = some (seqObj "list" #[] 0) := Heap.get?_push_size _ rfl
  have e1 : (Value.type "tuple" == Value.type "list") = false := by decide
  have e2 : (Value.type "tuple" == Value.type "tuple") = true := by decide
  have sz : ((#[] : Array Value) ++ us.toArray).size ≤ sizeLine + 1 := by
    simp only [Array.size_append, List.size_toArray, List.length_nil]
    omega
  unfold collect
  refine wpAny_bind (wpAny_runValue (codeAny_builtin entry_proto_collect' ?a))
  show wpAny (model P w) _ (do again (.builtin "list.__iadd__" ⟨[← newList [], .ref l], []⟩)) _ E s
  refine wpAny_bind (wpAny_newList (wpAny_pure ⟨Code.quiet_builtin _ (by decide +kernel), codeAny_builtin entry_list_iadd' ?b⟩))
  show wpAny (model P w) _ (Builtin.List.listExtendWith (.ref s.heap.objs.size) (.ref l) (.ref s.heap.objs.size)) _ E { s with heap := s.heap.push (seqObj "list" #[] 0) }
  unfold Builtin.List.listExtendWith
  refine wpAny_bind (wpAny_typeOf (T := "tuple") ⟨ob, hob2, hcl⟩ ?c)
  simp only [e1, e2, Bool.or_true, Bool.true_or, Bool.or_self, if_true]
  refine wpAny_bind (listItems_at hob2 hda ?d)
  refine wpAny_bind (listItems_at (xs := #[]) (n := 0) hnew rfl ?e)
  first | rw [if_neg (by simp)] | skip
  refine wpAny_bind (listUpdate_at (xs := #[]) (n := 0) hnew rfl ?f (Nat.zero_le _) sz)
  refine wpAny_pure ?g
  show wpAny (model P w) A (do
      let z ← load s.heap.objs.size
      match z.data with
      | .seq ys _ => pure ys.toList
      | _ => unsupported "internal:collect") Q E _
  refine wpAny_bind (wpAny_load (get?_update_seq hnew _) ?h)
  show wpAny (model P w) A (pure ((#[] : Array Value) ++ us.toArray).toList) Q E _
  rw [show ((#[] : Array Value) ++ us.toArray).toList = us by simp]
  exact wpAny_pure k
/-- sorted(t), t a tuple -/
theorem sorted_tup {l : Addr} {us : List Value} {lt : Value → Value → Bool} {Q : Value → Shared → Prop} (O : SrtO.Swo lt) (ht : s.heap.IsTuple l us.toArray) (hz : us.length ≤ sizeLine)
    (hc : 2 ≤ us.length → ∀ (h₁ : Heap) (a : Addr), h₁.get? a = some (seqObj "list" us.toArray 0) → (∀ b o, s.heap.get? b = some o → b ≠ a ∧ h₁.get? b = some o) → SrtO.SortableO P w A.in1.in1 { s with heap := h₁ } a us lt)
    (k : ∀ ys : List Value, SrtO.Srtd lt ys → SrtO.Stb lt ys us → Q (.ref (s.heap.objs.size + 1)) { s with heap := sortedAll s.heap us ys.toArray }) : wpAny (model P w) A (call (.builtin "sorted") [.ref l]) Q E s := by
  refine Calls.call_function_entry kind_sorted plain_sorted entry_sorted (args_sorted1 _) ?_
  unfold Builtin.«sorted»
  refine wpAny_bind (m := checkCount "sorted" 1 1 _) (wpAny_pure (wpAny_bind (gather_tup ht hz ?_)))
  refine wpAny_bind (wpAny_newList ?_ hz)
  generalize hG : (s.heap.push (seqObj "list" #[] 0)).update s.heap.objs.size (Obj.mapSeq (· ++ us.toArray)) = G
  have zG : G.objs.size = s.heap.objs.size + 1 := by rw [← hG, Heap.size_update, Heap.size_push]
  have at1 : (G.push (seqObj "list" us.toArray 0)).get? (s.heap.objs.size + 1) = some (seqObj "list" us.toArray 0) := by
    rw [← zG]
    exact Heap.get?_push_size _ rfl
  have old : ∀ b o, s.heap.get? b = some o → b ≠ s.heap.objs.size + 1 ∧ (G.push (seqObj "list" us.toArray 0)).get? b = some o := fun b o q => by
    have lt := Heap.lt_size q
    refine ⟨Nat.ne_of_lt (Nat.lt_succ_of_lt lt), Heap.get?_push_of_some _ ?_⟩
    rw [← hG, Heap.get?_update_ne _ _ _ _ (Nat.ne_of_lt lt)]
    exact Heap.get?_push_of_some _ q
  show wpAny _ _ _ _ _ { s with heap := G.push (seqObj "list" us.toArray 0) }
  rw [zG]
  refine wpAny_bind (wpAny_holding (wpAny_call_entry slot_list_sort ⟨_, at1, rfl⟩ entry_list_sort (SrtO.list_sort_ord O at1 hz (fun h2 => hc h2 _ _ at1 old) fun ys h1 h2 => ⟨_, rfl, ?_⟩) (args_list_sort _)))
  have kk := k ys h1 h2
  unfold sortedAll at kk
  rw [hG] at kk
  exact wpAny_pure ⟨_, rfl, kk⟩
end
section
variable {X : Cx}
/-- sorted(t) of a tuple of ints -/
def rSortTI (K : PySem.W.Frag) : List V → Hp → VK → Prop := fun vs H Q => ∃ (a : Addr) (is : List Int), vs = [V.ref a] ∧ SqT K H a (is.map V.int) ∧ ∀ (js : List Int) (p : Addr), js.Perm is → js.Pairwise (· ≤ ·) → H p = none → Q (.ref p) (upd H p (.lst (js.map V.int)))
theorem cr_sortTI : CallR X (.builtin "sorted") (rSortTI X.K) := by
  intro pins s σ H vs us Q I r h
  obtain ⟨a, is, rfl, hs, q⟩ := h
  obtain ⟨its, rv, hl, hz⟩ := I.tuple hs
  rw [Vals.ref1 r]
  have hi := rv.ints
  have zz : its.length ≤ sizeLine := by rw [← rv.length]; exact hz
  refine sorted_tup SrtO.swo_int hl zz (fun h2 h₁ b _ _ => SrtO.ints_sortable hi h2) fun ys h1 h2 => ?_
  obtain ⟨k1, k2, k3⟩ := SrtO.ints_out hi h1 h2
  obtain ⟨ep, he⟩ := PyProof.Rows.sortedAll_at s.heap its ys.toArray
  have hlen : ((ys.map SrtO.iv).map V.int).length ≤ sizeLine := by
    rw [List.length_map, k2.length_eq]
    rw [List.length_map] at hz
    exact hz
  have nn : H (s.heap.objs.size + 1) = none := I.hok.fresh (Nat.le_succ _)
  exact ⟨.ref _, upd H (s.heap.objs.size + 1) (.lst ((ys.map SrtO.iv).map V.int)), I.laid (t' := s.toks) (fun _ _ => PyProof.Rows.sortedAll_old) (Nat.le_succ _) ⟨hlen, ys, ep, vals_of_ints k1, he⟩, rfl, q _ _ k2 k3 nn⟩
/-- set(xs), a list or a tuple of ints -/
def rSetI (K : PySem.W.Frag) (w : World) : List V → Hp → VK → Prop := fun xs H Q => ∃ (p : Addr) (is : List Int), xs = [V.ref p] ∧ (SqL K H p (is.map V.int) ∨ SqT K H p (is.map V.int)) ∧ is.length + 1 < scanBound ∧ ∀ (a : Addr) (c : Nat), H a = none →
  (∀ js : List Int, js.Nodup → (∀ k, k ∈ js ↔ k ∈ is) → c = js.length) → Q (.ref a) (upd H a (SetO w a (fun j => decide (j ∈ is)) c))
theorem setR_count {w : World} {h : Heap} {a : Addr} {S : Int → Bool} {n : Nat} (R : SetR w h a S n) {js : List Int} (hn : js.Nodup) (hm : ∀ k, k ∈ js ↔ S k = true) : n = js.length := by
  obtain ⟨o, es, ep, t, _, _, _, _, nd, hk, _, _, hs, _⟩ := R
  have hp : (es.toList.map keyOf).Perm js := by
    rw [List.perm_ext_iff_of_nodup nd hn]
    exact fun k => ((hm k).trans (hk k)).symm
  rw [← hp.length_eq, ← hs]
  simp
theorem cr_setI (hc : X.calm = true) : CallR X (.type "set") (rSetI X.K X.w) := by
  intro pins s σ H xs us Q I r h
  obtain ⟨p, is, rfl, hs, hb, q⟩ := h
  rw [Vals.ref1 r]
  have nn : H s.heap.objs.size = none := I.hok.fresh (Nat.le_refl _)
  have fin : ∀ (h' : Heap) (tk c : Nat), SetR X.w h' s.heap.objs.size (fun j => decide (j ∈ is)) c → (∀ b o, s.heap.get? b = some o → h'.get? b = some o) → EP X pins σ Q (.ref s.heap.objs.size) { s with heap := h', toks := tk } := fun h' tk c hS hk =>
    ⟨.ref _, _, I.laid (t' := tk) hk (Nat.le_refl _) (setO_new hS), rfl, q _ c nn fun js h1 h2 => setR_count hS h1 fun k => (h2 k).trans (by simp)⟩
  rcases hs with hs | hs
  · obtain ⟨its, rv, hl, hz⟩ := I.list hs
    exact set_lstI is (I.ok.hd hc) hl.isList (by simpa using rv.ints) hb fun h' tk c hS _ hk => fin h' tk c hS hk
  · obtain ⟨its, rv, hl, hz⟩ := I.tuple hs
    exact call_set_tupI is (I.ok.hd hc) hl (by simpa using rv.ints) hb fun h' tk c hS _ hk => fin h' tk c hS hk
end
end L2

namespace G
open PySem L2 PyProof.Rows
/-! ### plain: sorted, each once -/
theorem insL_perm {α : Type} (lt : α → α → Bool) (x : α) : ∀ l : List α, (insL lt x l).Perm (x :: l)
  | [] => List.Perm.refl _
  | y :: r => by
    unfold insL
    split
    · exact List.Perm.refl _
    · exact (List.Perm.cons y (insL_perm lt x r)).trans (List.Perm.swap x y r)
theorem srt_perm {α : Type} (lt : α → α → Bool) : ∀ l : List α, (srt lt l).Perm l
  | [] => List.Perm.refl _
  | x :: r => (insL_perm lt x _).trans (List.Perm.cons x (srt_perm lt r))
theorem insL_le (x : Int) : ∀ {l : List Int}, l.Pairwise (· ≤ ·) → (insL (fun a b : Int => decide (a < b)) x l).Pairwise (· ≤ ·)
  | [], _ => List.pairwise_singleton _ _
  | y :: r, h => by
    obtain ⟨h1, h2⟩ := List.pairwise_cons.mp h
    unfold insL
    split
    · rename_i q
      have q : x < y := of_decide_eq_true q
      refine List.pairwise_cons.mpr ⟨fun z hz => ?_, h⟩
      rcases List.mem_cons.mp hz with rfl | hz
      · omega
      · have := h1 z hz; omega
    · rename_i q
      have q : ¬ x < y := fun z => q (decide_eq_true z)
      refine List.pairwise_cons.mpr ⟨fun z hz => ?_, insL_le x h2⟩
      rcases List.mem_cons.mp ((insL_perm _ x r).mem_iff.mp hz) with rfl | hz
      · omega
      · exact h1 z hz
theorem srt_le : ∀ l : List Int, (srt (fun a b : Int => decide (a < b)) l).Pairwise (· ≤ ·)
  | [] => List.Pairwise.nil
  | x :: r => insL_le x (srt_le r)
theorem le_uniq {l m : List Int} (h : l.Perm m) (h1 : l.Pairwise (· ≤ ·)) (h2 : m.Pairwise (· ≤ ·)) : l = m := h.eq_of_pairwise (fun a b _ _ p q => Int.le_antisymm p q) h1 h2
theorem srt_eq {l m : List Int} (h : l.Perm m) (h1 : l.Pairwise (· ≤ ·)) : l = srt (fun a b : Int => decide (a < b)) m := le_uniq (h.trans (srt_perm _ m).symm) h1 (srt_le m)
theorem ddI_mem {α : Type} [DecidableEq α] : ∀ {l : List α} {x : α}, x ∈ ddI l ↔ x ∈ l
  | [], x => Iff.rfl
  | y :: r, x => by
    have ih := ddI_mem (l := r) (x := x)
    by_cases e : x = y
    · subst e; simp [ddI]
    · simp [ddI, e, ih]
theorem ddI_nodup {α : Type} [DecidableEq α] : ∀ l : List α, (ddI l).Nodup
  | [] => List.nodup_nil
  | y :: r => by
    refine List.nodup_cons.mpr ⟨by simp, ?_⟩
    exact (ddI_nodup r).filter _
theorem iL_map : ∀ ns : List Int, iL (ns.map .int) = some ns
  | [] => rfl
  | i :: r => by simp [iL, iL_map r]
section
variable {R : Rn} {σ : St} {e : Env} {H : Hp} {Ls : Nat → List Addr} {F : List Addr} {X : Cx} {sub : Nat → List Nat}
theorem vals_int {B : Addr → Prop} {n : Nat} {l : List D} {xs : List V} {ns : List Int} (h : Reps R H B n l xs []) (hi : iL l = some ns) : xs = ns.map V.int := (h.ints hi).1
/-- a new set, owned -/
theorem QK.newSet {Q : VK} {is : List Int} {c : Nat} {a : Addr} (k : QK R σ e H Ls F 1 (.set ((ddI is).map .int)) Q) (g : Good R σ e H Ls F) (hn : H a = none) (hc : c = (ddI is).length) : Q (.ref a) (upd H a (SetO R.w a (fun j => decide (j ∈ is)) c)) := by
  subst hc
  have e1 : (fun j => decide (j ∈ is)) = fun j => decide (j ∈ ddI is) := by
    funext j
    simp [ddI_mem]
  rw [e1]
  obtain ⟨g1, s1⟩ := g.newO (o := SetO R.w a (fun j => decide (j ∈ ddI is)) (ddI is).length) hn (by unfold SetO; intro _ z; cases z) fun _ => set_no
  refine k _ _ [a] s1 g1 ?_
  simp only [Rep]
  exact ⟨a, rfl, ⟨_, iL_map _, ddI_nodup is, upd_same⟩, rfl⟩
theorem at_set {vs : List V} {Q : VK} (h : At R σ e H Ls F sub .set vs Q) : rSetI X.K R.w vs H Q := by
  obtain ⟨n, a, v, L, d, rfl, r, hk, hf, k, g⟩ := at_1 (fun _ => rfl) h
  unfold setB at hf
  split at hf
  · rename_i l
    obtain ⟨p, xs, rfl, e1, q1⟩ := r.lst hk
    obtain ⟨z, hz, rfl⟩ := Option.map_eq_some_iff.mp hf
    unfold setD at hz
    split at hz
    · rename_i is hi
      split at hz
      · rename_i hl
        cases hz
        have := vals_int q1 hi
        subst this
        exact ⟨p, is, rfl, .inl (.of e1), by unfold scanBound; omega, fun a c hn hc => k.newSet g hn (hc _ (ddI_nodup is) fun k => ddI_mem)⟩
      · cases hz
    · cases hz
  · rename_i l
    obtain ⟨p, xs, rfl, e1, nb, q1⟩ := r.tup hk
    obtain ⟨z, hz, rfl⟩ := Option.map_eq_some_iff.mp hf
    unfold setD at hz
    split at hz
    · rename_i is hi
      split at hz
      · rename_i hl
        cases hz
        have := vals_int q1 hi
        subst this
        exact ⟨p, is, rfl, .inr (.of e1), by unfold scanBound; omega, fun a c hn hc => k.newSet g hn (hc _ (ddI_nodup is) fun k => ddI_mem)⟩
      · cases hz
    · cases hz
  · cases hf
/-- sorted -/
def rSortA (K : PySem.W.Frag) (w : World) : List V → Hp → VK → Prop := fun xs H Q => rSortedI K xs H Q ∨ rSortTI K xs H Q ∨ rSortedSet w xs H Q
theorem cr_sortA (hc : X.calm = true) : CallR X (.builtin "sorted") (rSortA X.K X.w) := cr_sortedI.or (cr_sortTI.or (cr_sortedSet hc))
theorem Reps.ofI {B : Addr → Prop} {n : Nat} (is : List Int) : Reps R H B n (is.map .int) (is.map V.int) [] := Reps.ofInts is
theorem at_sorted {vs : List V} {Q : VK} (h : At R σ e H Ls F sub .sorted vs Q) : rSortA X.K R.w vs H Q := by
  obtain ⟨n, a, v, L, d, rfl, r, hk, hf, k, g⟩ := at_1 (fun _ => rfl) h
  unfold sortB at hf
  split at hf
  · obtain ⟨p, xs, rfl, e1, q1⟩ := r.lst hk
    obtain ⟨z, hz, rfl⟩ := Option.map_eq_some_iff.mp hf
    obtain ⟨is, hi, rfl⟩ := Option.map_eq_some_iff.mp hz
    have := vals_int q1 hi
    subst this
    refine .inl ⟨p, is, rfl, .of e1, fun js q h1 h2 hn => ?_⟩
    rw [srt_eq h1 h2]
    exact k.newL g (Reps.ofInts _) q hn
  · obtain ⟨p, xs, rfl, e1, nb, q1⟩ := r.tup hk
    obtain ⟨z, hz, rfl⟩ := Option.map_eq_some_iff.mp hf
    obtain ⟨is, hi, rfl⟩ := Option.map_eq_some_iff.mp hz
    have := vals_int q1 hi
    subst this
    refine .inr (.inl ⟨p, is, rfl, .of e1, fun js q h1 h2 hn => ?_⟩)
    rw [srt_eq h1 h2]
    exact k.newL g (Reps.ofInts _) q hn
  · split at hf
    · rename_i hl
      obtain ⟨a, ns, rfl, rfl, hi, nd, e1⟩ := r.setAt
      obtain ⟨z, hz, rfl⟩ := Option.map_eq_some_iff.mp hf
      unfold sortD at hz
      rw [hi] at hz
      cases hz
      refine .inr (.inr ⟨a, _, _, rfl, e1, by simpa using hl, fun js q h1 h2 _ hn => ?_⟩)
      have hp : js.Perm ns := by
        rw [List.perm_ext_iff_of_nodup (h1.imp fun z y => by omega) nd]
        exact fun k => (h2 k).trans (by simp)
      rw [srt_eq hp (h1.imp fun z => Int.le_of_lt z)]
      exact k.newL g (Reps.ofInts _) q hn
    · cases hf
  · cases hf
/-- also in a set -/
def rInA (w : World) : R2 := fun x y H Q => rInG false x y H Q ∨ rSIn w x y H Q
def rNinA (w : World) : R2 := fun x y H Q => rInG true x y H Q ∨ rSNotIn w x y H Q
theorem or_inA (C : Cok X) : OpR X (compareOp .In) (rInA X.w) := (or_in C).or or_sin
theorem or_ninA (C : Cok X) : OpR X (compareOp .NotIn) (rNinA X.w) := (or_nin C).or or_snotin
theorem br_inA {w : World} : BoolR (rInA w) := fun x y H Q Q' f h => h.elim (fun h => .inl (br_in x y H Q Q' f h)) fun ⟨k, a, S, n, h1, h2, h3, q⟩ => .inr ⟨k, a, S, n, h1, h2, h3, f _ _ q⟩
theorem br_ninA {w : World} : BoolR (rNinA w) := fun x y H Q Q' f h => h.elim (fun h => .inl (br_in x y H Q Q' f h)) fun ⟨k, a, S, n, h1, h2, h3, q⟩ => .inr ⟨k, a, S, n, h1, h2, h3, f _ _ q⟩
theorem inD_some {x c : D} {b : Bool} (h : inD x c = some b) : (∃ l, (c = .lst l ∨ c = .tup l) ∧ anyEq x l = some b) ∨ ∃ l i ns, c = .set l ∧ x = .int i ∧ iL l = some ns ∧ b = decide (i ∈ ns) := by
  unfold inD at h
  split at h
  · exact .inl ⟨_, .inl rfl, h⟩
  · exact .inl ⟨_, .inr rfl, h⟩
  · split at h
    · rename_i i ns hi
      cases h
      exact .inr ⟨_, i, ns, rfl, rfl, hi, rfl⟩
    · cases h
  · cases h
theorem at_in {x y : V} {Q : VK} (h : At R σ e H Ls F sub .inn [x, y] Q) : rInA R.w x y H Q := by
  obtain ⟨⟨l, d, rr, hk, hb, k⟩, g⟩ := h
  obtain ⟨a, b, hl, hf⟩ := b2_some (f := fun x c => (inD x c).map .bl) hb
  obtain ⟨c, hc, rfl⟩ := Option.map_eq_some_iff.mp hf
  obtain ⟨n1, n2, v1, v2, L1, L2, rfl, hv, r1, r2⟩ := rr.two hl
  cases hv
  rcases inD_some hc with ⟨l, hd, he⟩ | ⟨l, i, ns, rfl, rfl, hi, rfl⟩
  · exact .inl ⟨R, _, n1, a, L1, n2, b, L2, l, c, r1, r2, hd, he, k.bl g⟩
  · obtain ⟨p, ms, rfl, rfl, h1, h2, h3⟩ := r2.setAt
    rw [hi] at h1
    cases h1
    exact .inr ⟨i, p, _, _, r1.int, rfl, h3, k.bl g⟩
theorem at_nin {x y : V} {Q : VK} (h : At R σ e H Ls F sub .nin [x, y] Q) : rNinA R.w x y H Q := by
  obtain ⟨⟨l, d, rr, hk, hb, k⟩, g⟩ := h
  obtain ⟨a, b, hl, hf⟩ := b2_some (f := fun x c => (inD x c).map fun b => D.bl (!b)) hb
  obtain ⟨c, hc, rfl⟩ := Option.map_eq_some_iff.mp hf
  obtain ⟨n1, n2, v1, v2, L1, L2, rfl, hv, r1, r2⟩ := rr.two hl
  cases hv
  rcases inD_some hc with ⟨l, hd, he⟩ | ⟨l, i, ns, rfl, rfl, hi, rfl⟩
  · exact .inl ⟨R, _, n1, a, L1, n2, b, L2, l, c, r1, r2, hd, he, k.bl g⟩
  · obtain ⟨p, ms, rfl, rfl, h1, h2, h3⟩ := r2.setAt
    rw [hi] at h1
    cases h1
    exact .inr ⟨i, p, _, _, r1.int, rfl, h3, k.bl g⟩
end
end G

set_option maxHeartbeats 1000000
/-! G.Snd3: built-in functions, subscripts, slices, displays, and, or, not, chains. -/
namespace G
open PySem L2 PyProof.Rows
section
variable {g : Cg} {X : Cx} {R : Rn} {W : WD} {σ : St} {e : Env} {H : Hp} {Ls : Nat → List Addr} {F : List Addr} {sub : Nat → List Nat}

/-! ### built-in functions -/
theorem bN_run {xs : Es} {o : B} {r : List V → Hp → VK → Prop} {Q : VK} (hat : ∀ {e H Ls F vs Q}, At g.R σ e H Ls F g.sub o vs Q → r vs H Q) (h : tV g.R g.W (ev g.sub g.F (.b o xs)).val σ H Q) :
    tCB r (tA g.R g.W (evPs g.sub g.F xs)) σ H Q := tA_mono (op_run h) fun vs H ⟨_, _, _, z⟩ => hat z
section
variable {a : Expr} {as : List Expr} {xs : Es} {y : E} {p pos : Pos}
theorem je_callB {x : Str} {id : String} {o : B} {r : List V → Hp → VK → Prop} (hc : CallR X (.builtin id) r) (hat : ∀ {e H Ls F vs Q} {σ : St}, At g.R σ e H Ls F g.sub o vs Q → r vs H Q) (hg : Gl X x) (hm : X.mg x = none) (hv : bootBuiltins x = some (.builtin id)) (ha : JA g X (a :: as) xs)
    (hn : x ≠ "__name__") (hdb : (x == ("__debug__" : Str)) = false) (he : starEach (a :: as) X.env = (false, eval a X.env) :: starEach as X.env) (hpl : (backTo pos (starEach as X.env)).any (·.1) = false) : JE g X (.Call (.Name x p) (a :: as) [] pos) (.b o xs) :=
  .of ((pe_callB hc hg hm hv ha hn hdb he hpl).imp fun σ H Q z => bN_run hat z) (fun _ => rfl) rfl fun _ => rfl
theorem je_callTy {x : Str} {id : String} {o : B} {r : List V → Hp → VK → Prop} (hc : CallR X (.type id) r) (hat : ∀ {e H Ls F vs Q} {σ : St}, At g.R σ e H Ls F g.sub o vs Q → r vs H Q) (hg : Gl X x) (hm : X.mg x = none) (hv : bootBuiltins x = some (.type id)) (ha : JA g X (a :: as) xs)
    (hn : x ≠ "__name__") (hdb : (x == ("__debug__" : Str)) = false) (he : starEach (a :: as) X.env = (false, eval a X.env) :: starEach as X.env) (hpl : (backTo pos (starEach as X.env)).any (·.1) = false) : JE g X (.Call (.Name x p) (a :: as) [] pos) (.b o xs) :=
  .of ((pe_callTy hc hg hm hv ha hn hdb he hpl).imp fun σ H Q z => bN_run hat z) (fun _ => rfl) rfl fun _ => rfl
/-- what a call's text asks -/
structure Pl1 (X : Cx) (pos : Pos) (a : Expr) (as : List Expr) : Prop where
  he : starEach (a :: as) X.env = (false, eval a X.env) :: starEach as X.env := by rfl
  hpl : (backTo pos (starEach as X.env)).any (·.1) = false := by rfl
theorem je_len (hg : Gl X "len") (hm : X.mg "len" = none) (ha : JA g X [a] xs) (z : Pl1 X pos a [] := by exact {}) : JE g X (.Call (.Name "len" p) [a] [] pos) (.b .len xs) := je_callB cr_lenG at_lenG hg hm (by rfl) ha (by decide) (by decide) z.he z.hpl
theorem je_list (C : Cok X) (hg : Gl X "list") (hm : X.mg "list" = none) (ha : JA g X [a] xs) (z : Pl1 X pos a [] := by exact {}) : JE g X (.Call (.Name "list" p) [a] [] pos) (.b .list xs) := je_callTy (cr_listG C) at_listG hg hm (by rfl) ha (by decide) (by decide) z.he z.hpl
theorem je_tuple (hg : Gl X "tuple") (hm : X.mg "tuple" = none) (ha : JA g X [a] xs) (z : Pl1 X pos a [] := by exact {}) : JE g X (.Call (.Name "tuple" p) [a] [] pos) (.b .tuple xs) := je_callTy call_tuple_of at_tuple hg hm (by rfl) ha (by decide) (by decide) z.he z.hpl
theorem je_abs (hg : Gl X "abs") (hm : X.mg "abs" = none) (ha : JA g X [a] xs) (z : Pl1 X pos a [] := by exact {}) : JE g X (.Call (.Name "abs" p) [a] [] pos) (.b .abs xs) := je_callB call_abs at_abs hg hm (by rfl) ha (by decide) (by decide) z.he z.hpl
theorem je_intc (hg : Gl X "int") (hm : X.mg "int" = none) (ha : JA g X [a] xs) (z : Pl1 X pos a [] := by exact {}) : JE g X (.Call (.Name "int" p) [a] [] pos) (.b .int xs) := je_callTy call_int1 at_int hg hm (by rfl) ha (by decide) (by decide) z.he z.hpl
theorem je_set (C : Cok X) (hw : g.R.w = X.w) (hg : Gl X "set") (hm : X.mg "set" = none) (ha : JA g X [a] xs) (z : Pl1 X pos a [] := by exact {}) : JE g X (.Call (.Name "set" p) [a] [] pos) (.b .set xs) := je_callTy (cr_setI C.calm) (fun h => by rw [← hw]; exact at_set h) hg hm (by rfl) ha (by decide) (by decide) z.he z.hpl
theorem je_sorted (C : Cok X) (hw : g.R.w = X.w) (hg : Gl X "sorted") (hm : X.mg "sorted" = none) (ha : JA g X [a] xs) (z : Pl1 X pos a [] := by exact {}) : JE g X (.Call (.Name "sorted" p) [a] [] pos) (.b .sorted xs) := je_callB (cr_sortA C.calm) (fun h => by rw [← hw]; exact at_sorted h) hg hm (by rfl) ha (by decide) (by decide) z.he z.hpl
theorem je_sum (C : Cok X) (hg : Gl X "sum") (hm : X.mg "sum" = none) (ha : JA g X [a] xs) (z : Pl1 X pos a [] := by exact {}) : JE g X (.Call (.Name "sum" p) [a] [] pos) (.b .sum xs) := je_callB (cr_sum C.calm) at_sum hg hm (by rfl) ha (by decide) (by decide) z.he z.hpl
theorem je_any (C : Cok X) (hg : Gl X "any") (hm : X.mg "any" = none) (ha : JA g X [a] xs) (z : Pl1 X pos a [] := by exact {}) : JE g X (.Call (.Name "any" p) [a] [] pos) (.b .any xs) := je_callB (cr_any C.calm) at_any hg hm (by rfl) ha (by decide) (by decide) z.he z.hpl
theorem je_all (C : Cok X) (hg : Gl X "all") (hm : X.mg "all" = none) (ha : JA g X [a] xs) (z : Pl1 X pos a [] := by exact {}) : JE g X (.Call (.Name "all" p) [a] [] pos) (.b .all xs) := je_callB (cr_all C.calm) at_all hg hm (by rfl) ha (by decide) (by decide) z.he z.hpl
theorem je_maxL (C : Cok X) (hg : Gl X "max") (hm : X.mg "max" = none) (ha : JA g X [a] xs) (z : Pl1 X pos a [] := by exact {}) : JE g X (.Call (.Name "max" p) [a] [] pos) (.b .maxL xs) := je_callB (cr_max C.calm) at_maxL hg hm (by rfl) ha (by decide) (by decide) z.he z.hpl
theorem je_minL (C : Cok X) (hg : Gl X "min") (hm : X.mg "min" = none) (ha : JA g X [a] xs) (z : Pl1 X pos a [] := by exact {}) : JE g X (.Call (.Name "min" p) [a] [] pos) (.b .minL xs) := je_callB (cr_min C.calm) at_minL hg hm (by rfl) ha (by decide) (by decide) z.he z.hpl
theorem je_max2 {b : Expr} (C : Cok X) (hg : Gl X "max") (hm : X.mg "max" = none) (ha : JA g X [a, b] xs) (z : Pl1 X pos a [b] := by exact {}) : JE g X (.Call (.Name "max" p) [a, b] [] pos) (.b .max2 xs) := je_callB (call_max2 C.calm) at_max2 hg hm (by rfl) ha (by decide) (by decide) z.he z.hpl
theorem je_min2 {b : Expr} (C : Cok X) (hg : Gl X "min") (hm : X.mg "min" = none) (ha : JA g X [a, b] xs) (z : Pl1 X pos a [b] := by exact {}) : JE g X (.Call (.Name "min" p) [a, b] [] pos) (.b .min2 xs) := je_callB (call_min2 C.calm) at_min2 hg hm (by rfl) ha (by decide) (by decide) z.he z.hpl
end

/-! ### subscripts, slices -/
theorem je_idx {a b : Expr} {x y : E} {pos : Pos} (ha : JE g X a x) (hb : JE g X b y) (hs : PlainIx b := by exact fun _ _ => rfl) : JE g X (.Subscript a b pos) (.b .idx (.cons x (.cons y .nil))) :=
  .of ((pe_ix ix_seq ha.plc hb.plc hs).imp fun σ H Q z => b2_run at_idx z) (fun _ => rfl) rfl fun _ => rfl
theorem je_slc_tf {a b : Expr} {x y : E} {p pos : Pos} (ha : JE g X a x) (hb : JE g X b y) : JE g X (.Subscript a (.Slice (some b) none none p) pos) (.b (.slc true false) (.cons x (.cons y .nil))) :=
  .of ((pe_slice sl_g ha.plc (po_some hb.plc) po_none).imp fun σ H Q z => by
    have z2 : tOp (fun u v H' Q => ∃ i, v = .int i ∧ rSlG X.K u (some i) none H' Q) _ _ σ H Q := b2_run at_slc_tf z
    exact z2) (fun _ => rfl) rfl fun _ => rfl
theorem je_slc_ft {a b : Expr} {x y : E} {p pos : Pos} (ha : JE g X a x) (hb : JE g X b y) : JE g X (.Subscript a (.Slice none (some b) none p) pos) (.b (.slc false true) (.cons x (.cons y .nil))) :=
  .of ((pe_slice sl_g ha.plc po_none (po_some hb.plc)).imp fun σ H Q z => by
    have z2 : tOp (fun u v H' Q => ∃ i, v = .int i ∧ rSlG X.K u none (some i) H' Q) _ _ σ H Q := b2_run at_slc_ft z
    exact z2) (fun _ => rfl) rfl fun _ => rfl

/-! ### places in a row, one by one -/
theorem PReps.snoc {B : Addr → Prop} {p : Pl} {v : V} {L2 : List Addr} (hp : PRep R H B σ p v L2) : ∀ {ps : List Pl} {vs : List V} {L : List Addr}, PReps R H B σ ps vs L → PReps R H B σ (ps ++ [p]) (vs ++ [v]) (L ++ L2)
  | [], _, _, h => by
    obtain ⟨rfl, rfl⟩ := h
    exact ⟨v, [], L2, [], rfl, by simp, hp, rfl, rfl⟩
  | q :: ps, _, _, h => by
    obtain ⟨u, vs', L1, L3, rfl, rfl, h1, h2⟩ := h
    exact ⟨u, vs' ++ [v], L1, L3 ++ L2, rfl, by simp, h1, PReps.snoc hp h2⟩
/-- a place, then what is behind it -/
theorem tP_step {β : Type} {m : M Pl} {f : Pl → M β} {P : Rs β → Prop} {H0 : Hp} {B0 : Addr → Prop} {L1 : List Addr} {vs : List V} {ps : List Pl} {Q : VK} (G : Good R σ e H Ls (L1 ++ F)) (st : Step H0 B0 H (Bn R Ls (L1 ++ F)) F) (pr : PReps R H (Bn R Ls (L1 ++ F)) σ ps vs L1) (h : (mb m f e).All P)
    (he : ∀ x e', P (.err x e') → ErrK R W σ H0 B0 F x e') (hn : ¬ P .no)
    (k : ∀ p e' v H' Ls' L', (f p e').All P → Good R σ e' H' Ls' (L' ++ F) → Step H0 B0 H' (Bn R Ls' (L' ++ F)) F → PReps R H' (Bn R Ls' (L' ++ F)) σ (ps ++ [p]) (vs ++ [v]) L' → Q v H') : tP R W m σ H Q := by
  refine tP_then G h (fun x e' z => (he x e' z).by st) hn fun p e1 v H1 Ls1 L2 h1 s1 g1 p1 => ?_
  obtain ⟨g3, hb⟩ := g1.two
  refine k p e1 v H1 Ls1 (L1 ++ L2) h1 g3 (st.two s1 hb) (PReps.snoc (PRep.by (Step.of_iff (F := []) hb) (fun _ _ => rfl) p1) ?_)
  exact PReps.by (Step.of_iff (F := []) hb) (fun _ _ => rfl) (PReps.by s1 (fun a z => s1.frm a (List.mem_append_left _ z)) pr)
theorem isI_int {d : D} (h : isI d = true) : ∃ i, d = .int i := by
  cases d <;> first | exact ⟨_, rfl⟩ | cases h
theorem sl_run {X : Cx} {pa pb pc : M Pl} {Q : VK} (h : tV R W (mb pa fun x => mb pb fun y => mb (rdP y) fun r => tst (isI r.2) (mb pc fun z => bopE sub (.slc true true) [x, y, z])) σ H Q) :
    tSl (rSlG X.K) (tP R W pa) (tPart (tP R W pb)) (tPart (tP R W pc)) σ H Q := by
  obtain ⟨e, Ls, F, G, h⟩ := h
  refine tP_step (L1 := []) (vs := []) (ps := []) G .refl ⟨rfl, rfl⟩ h (fun _ _ z => z) no_V fun p e1 v H1 Ls1 L1 h1 g1 s1 p1 => ?_
  refine tP_step g1 s1 p1 h1 (fun _ _ z => z) no_V fun q e2 u H2 Ls2 L2 h2 g2 s2 p2 => ?_
  obtain ⟨v', vs', _, _, e0, _, _, y1⟩ := id p2
  cases e0
  obtain ⟨u', vs'', L3, _, e0, _, y2, _⟩ := y1
  cases e0
  obtain ⟨r, L, h3, rr⟩ := rdP_all g2 y2 (all_mb.mp h2) no_V
  have h3 : (tst (isI r.2) (mb pc fun z => bopE sub (.slc true true) [p, q, z]) e2).All (PostV R W σ H (Bn R Ls F) F Q) := h3
  obtain ⟨hi, h4⟩ := tst_all h3 no_V
  obtain ⟨i, hi⟩ := isI_int hi
  rw [hi] at rr
  refine ⟨i, rr.int, ?_⟩
  refine tP_step g2 s2 p2 h4 (fun _ _ z => z) no_V fun q' e3 w H3 Ls3 L3 h5 g3 s3 p3 => ?_
  obtain ⟨a, b, e1, e2, z⟩ := at_slc_tt (X := X) ⟨bop_run g3 p3 s3 h5, g3⟩
  rw [rr.int] at e1
  cases e1
  exact ⟨b, e2, z⟩
theorem je_slc_tt {a b c : Expr} {x y w : E} {p pos : Pos} (ha : JE g X a x) (hb : JE g X b y) (hc : JE g X c w) : JE g X (.Subscript a (.Slice (some b) (some c) none p) pos) (.sl x y w) :=
  .of ((pe_slice sl_g ha.plc (po_some hb.plc) (po_some hc.plc)).imp fun σ H Q z => sl_run z) (fun _ => rfl) rfl fun _ => rfl
/-- a chain of two comparisons -/
theorem ch_run {pa pb pc : M Pl} {o o' : B} {r r' : R2} {Q : VK} (hr : BoolR r) (hat : ∀ {e H Ls F x y Q} {σ : St}, At R σ e H Ls F sub o [x, y] Q → r x y H Q) (hat' : ∀ {e H Ls F x y Q} {σ : St}, At R σ e H Ls F sub o' [x, y] Q → r' x y H Q)
    (h : tV R W (mb pa fun x => mb pb fun y => mb (bopE sub o [x, y]) fun r => mb (truthE r) fun t => if t = true then mb pc fun z => bopE sub o' [y, z] else pu r) σ H Q) : tChain r r' (tP R W pa) (tP R W pb) (tP R W pc) σ H Q := by
  obtain ⟨e, Ls, F, G, h⟩ := h
  refine tP_step (L1 := []) (vs := []) (ps := []) G .refl ⟨rfl, rfl⟩ h (fun _ _ z => z) no_V fun p e1 v H1 Ls1 L1 h1 g1 s1 p1 => ?_
  refine tP_step g1 s1 p1 h1 (fun _ _ z => z) no_V fun q e2 u H2 Ls2 L2 h2 g2 s2 p2 => ?_
  obtain ⟨l, d, rr, hk, hd, h3⟩ := bop_all g2 p2 h2 no_V
  refine hr v u H2 (fun z H3 => ∀ k, z = .bl k → if k = true then tP R W pc σ H3 fun w' H4 => r' u w' H4 Q else Q (.bl false) H3) _ (fun b H q => ⟨b, rfl, q b rfl⟩) (hat ⟨⟨l, d, rr, hk, hd, fun v' H3 L3 s3 g3 rp k ek => ?_⟩, g2⟩)
  subst ek
  have ed := rep_bl rp
  subst ed
  have eL : L3 = [] := by simp only [Rep] at rp; exact rp.2
  subst eL
  have h4 : ((if k = true then mb pc fun z => bopE sub o' [q, z] else pu (bopN o (.bl k), .bl k)) e2).All (PostV R W σ H (Bn R Ls F) F Q) := h3
  have s4 : Step H (Bn R Ls F) H3 (Bn R Ls2 (L2 ++ F)) F := s2.trans s3 fun a z => List.mem_append_right _ z
  cases k with
  | true =>
    have p3 := PReps.by s3 (fun a z => s3.frm a (List.mem_append_left _ z)) p2
    refine tP_step (L1 := L2) (F := F) g3 s4 p3 h4 (fun _ _ z => z) no_V fun q' e3 w H4 Ls4 L4 h5 g4 s5 p4 => ?_
    obtain ⟨v', vs', _, L5, e0, _, _, y1⟩ := id p4
    cases e0
    exact hat' ⟨bop_run (Lt2 := L5) g4 y1 s5 h5, g4⟩
  | false =>
    obtain ⟨g5, s5, _⟩ := g3.letgo (Lt := L2) s4
    exact h4 (.bl false) H3 Ls2 [] s5 g5 (by simp [Rep])
section
variable {a b c : Expr} {x y w : E} {pos : Pos}
theorem je_chain {o o' : B} {op op' : CmpOp} {r r' : R2} (ho : OpR X (compareOp op) r) (ho' : OpR X (compareOp op') r') (hr : BoolR r) (hr' : BoolR r') (hat : ∀ {e H Ls F x y Q} {σ : St}, At g.R σ e H Ls F g.sub o [x, y] Q → r x y H Q) (hat' : ∀ {e H Ls F x y Q} {σ : St}, At g.R σ e H Ls F g.sub o' [x, y] Q → r' x y H Q)
    (ha : JE g X a x) (hb : JE g X b y) (hc : JE g X c w) (hm : lastMarks [op, op'] [b, c] = false) : JE g X (.Compare a [op, op'] [b, c] pos) (.ch o o' x y w) := by
  have hv : PE X (.Compare a [op, op'] [b, c] pos) (tV g.R g.W (ev g.sub g.F (.ch o o' x y w)).val) := (pe_chain ho ho' ha.plc hb.plc hc.plc hm).imp fun σ H Q z => ch_run hr hat hat' z
  refine ⟨hv, hv.imp fun σ H Q z => tP_of_tV z, (pt_chain ho ho' ha.plc hb.plc hc.plc hm).imp fun σ H Q z => ?_⟩
  have z1 := ch_run hr hat hat' (tP_of_tV (tru_run z))
  refine tP_mono z1 fun x H1 z => tP_mono z fun y H2 z => hr x y H2 _ _ (fun b H q => ?_) z
  obtain ⟨k, ek, q⟩ := q
  cases ek
  refine ⟨b, rfl, ?_⟩
  cases b with
  | true => exact tP_mono q fun w H4 z => hr' y w H4 _ _ (fun b H q => ⟨b, rfl, tru_bl q⟩) z
  | false => exact ⟨false, rfl, tru_bl q⟩
theorem je_le_lt (ha : JE g X a x) (hb : JE g X b y) (hc : JE g X c w) (hm : lastMarks [.LtE, .Lt] [b, c] = false := by with_unfolding_all rfl) : JE g X (.Compare a [.LtE, .Lt] [b, c] pos) (.ch .le .lt x y w) := je_chain op_le op_lt br_I br_I at_le at_lt ha hb hc hm
theorem je_le_le (ha : JE g X a x) (hb : JE g X b y) (hc : JE g X c w) (hm : lastMarks [.LtE, .LtE] [b, c] = false := by with_unfolding_all rfl) : JE g X (.Compare a [.LtE, .LtE] [b, c] pos) (.ch .le .le x y w) := je_chain op_le op_le br_I br_I at_le at_le ha hb hc hm
theorem je_lt_lt (ha : JE g X a x) (hb : JE g X b y) (hc : JE g X c w) (hm : lastMarks [.Lt, .Lt] [b, c] = false := by with_unfolding_all rfl) : JE g X (.Compare a [.Lt, .Lt] [b, c] pos) (.ch .lt .lt x y w) := je_chain op_lt op_lt br_I br_I at_lt at_lt ha hb hc hm
theorem je_lt_le (ha : JE g X a x) (hb : JE g X b y) (hc : JE g X c w) (hm : lastMarks [.Lt, .LtE] [b, c] = false := by with_unfolding_all rfl) : JE g X (.Compare a [.Lt, .LtE] [b, c] pos) (.ch .lt .le x y w) := je_chain op_lt op_le br_I br_I at_lt at_le ha hb hc hm
end
end
end G

set_option maxHeartbeats 1000000
/-! G.Snd4: displays, and, or, not, if-else, isinstance, repr, in, is None. -/
namespace G
open PySem L2 PyProof.Rows
section
variable {g : Cg} {X : Cx} {R : Rn} {W : WD} {σ : St} {e : Env} {H : Hp} {Ls : Nat → List Addr} {F : List Addr} {sub : Nat → List Nat}

/-! ### displays -/
/-- the places' data, given away: what is wanted of a new value of them -/
theorem disp_run {ma : M (List Pl)} {f : List (Nat × D) → M (Nat × D)} {Q : VK} {T : List V → Hp → Prop} (h : tV R W (mb ma fun ps => mb (vlPs ps) f) σ H Q)
    (k : ∀ (l : List (Nat × D)) (e' : Env) (vs : List V) (H' : Hp) (Ls' : Nat → List Addr) (F : List Addr), (∀ n d, (f l e').All (fun r => r = .ok (n, d) e') → QK R σ e' H' Ls' F n d Q) → (¬ (f l e').All fun r => r = .no) → Good R σ e' H' Ls' F → Reps R H' (Bn R Ls' F) 0 (l.map (·.2)) vs [] → T vs H') : True := trivial
theorem vl_run {ma : M (List Pl)} {f : List (Nat × D) → M (Nat × D)} {Q : VK} {T : List V → Hp → Prop} (h : tV R W (mb ma fun ps => mb (vlPs ps) f) σ H Q)
    (k : ∀ (l : List (Nat × D)) (e' : Env) (vs : List V) (H' H0 : Hp) (B0 : Addr → Prop) (Ls' : Nat → List Addr) (F : List Addr), (f l e').All (PostV R W σ H0 B0 F Q) → Step H0 B0 H' (Bn R Ls' F) F → Good R σ e' H' Ls' F → Reps R H' (Bn R Ls' F) 0 (l.map (·.2)) vs [] → T vs H') : tA R W ma σ H T := by
  obtain ⟨e, Ls, F, G, h⟩ := h
  refine tA_then G h (fun _ _ z => z) no_V fun ps e1 vs H1 Ls1 L1 h1 s1 g1 p1 => ?_
  obtain ⟨l, e2, Ls2, h2, g2, s2, r2⟩ := vlPs_all g1 p1 (all_mb.mp h1) no_V
  refine k l e2 vs H1 H (Bn R Ls F) Ls2 F h2 ⟨s1.ext, s1.frm, fun a z => ?_⟩ g2 r2
  rcases s2.bn a z with y | y
  · exact s1.bn a y
  · obtain ⟨o, q⟩ := g2.has a z
    rw [q] at y
    cases y
/-- what is wanted of an answer, from what is wanted behind it -/
theorem QK.of {H0 : Hp} {B0 : Addr → Prop} {n : Nat} {d : D} {Q : VK} (st : Step H0 B0 H (Bn R Ls F) F) (h : PostV R W σ H0 B0 F Q (.ok (n, d) e)) : QK R σ e H Ls F n d Q := fun v' H' Lt' s g rp => h v' H' Ls Lt' (st.trans s fun a z => z) g rp
theorem sz1000 {n : Nat} (h : decide (n ≤ 1000) = true) : n ≤ sizeLine := by
  have := of_decide_eq_true h
  rw [sizeLine_eq]
  omega
theorem je_tup {as : List Expr} {xs : Es} {k : Nat} {pos : Pos} (ha : JA g X as xs) : JE g X (.Tuple as k pos) (.tup xs) :=
  .of (PE.imp (pe_tup (x1 := k) ha) fun σ H Q z => vl_run z fun l e' vs H' H0 B0 Ls' F h st g rp => by
    obtain ⟨hz, h⟩ := tst_all h no_V
    exact ⟨by rw [rp.length, List.length_map]; exact sz1000 hz, (QK.of st h).newT g rp⟩) (fun _ => rfl) rfl fun _ => rfl
theorem je_lst {as : List Expr} {xs : Es} {pos : Pos} (ha : JA g X as xs) : JE g X (.List as pos) (.lst xs) :=
  .of (PE.imp (pe_lst ha) fun σ H Q z => vl_run z fun l e' vs H' H0 B0 Ls' F h st g rp => by
    obtain ⟨hz, h⟩ := tst_all h no_V
    exact ⟨by rw [rp.length, List.length_map]; exact sz1000 hz, (QK.of st h).newL g rp⟩) (fun _ => rfl) rfl fun _ => rfl
/-- {} -/
theorem dicO_new {P : Program} {w w' : World} {H : Hp} (h : Heap) (hb : sysModules < h.objs.size) : ObjOk P w' H (h.push { cls := .type "dict", data := .dict #[] }) h.objs.size (DicO w h.objs.size [] 0) :=
  ⟨⟨_, #[], Heap.get?_push_size _ rfl, ⟨rfl, rfl, rfl⟩, rfl, beq_eq_false_iff_ne.mpr (Ne.symm (Nat.ne_of_lt hb)), Nat.zero_le _, List.nodup_nil, .nil⟩, ⟨_, Heap.get?_push_size _ rfl⟩,
    fun h1 h2 ⟨o, des, a, b, c, d⟩ k => ⟨o, des, k _ a, b, c, d⟩⟩
theorem pe_d0 {w : World} {pos : Pos} : PE X (.Dict [] [] pos) fun _ H Q => ∀ p, H p = none → Q (.ref p) (upd H p (DicO w p [] 0)) := ⟨fun pins s σ H Q I h =>
  wpAny_Dict_empty ⟨.ref s.heap.objs.size, _, I.laid (a := s.heap.objs.size) (o := DicO w s.heap.objs.size [] 0) (t' := s.toks) (fun _ _ q => Heap.get?_push_of_some _ q) (Nat.le_refl _) (dicO_new s.heap I.big), rfl, h _ (I.hok.fresh (Nat.le_refl _))⟩⟩
theorem je_dd0 {pos : Pos} : JE g X (.Dict [] [] pos) (.dd .nil) :=
  .of ((pe_d0 (w := g.R.w)).imp fun σ H Q z p hp => by
    obtain ⟨e, Ls, F, G, h⟩ := z
    have h : PostV g.R g.W σ H (Bn g.R Ls F) F Q (.ok (1, .dct []) e) := h
    obtain ⟨g', s⟩ := G.newO (o := DicO g.R.w p [] 0) hp (by unfold DicO; intro _ z; cases z) fun _ => dic_no
    refine h (.ref p) _ Ls [p] s g' ?_
    simp only [Rep, RepK]
    exact ⟨p, [], 0, [], rfl, upd_same, rfl, rfl, rfl⟩) (fun _ => rfl) rfl fun _ => rfl

/-! ### not, and, or, if-else -/
theorem PostT.by {H0 : Hp} {B0 : Addr → Prop} {Q : Bool → Hp → Prop} (st : Step H0 B0 H (Bn R Ls F) F) {r : Rs Bool} (h : PostT R W σ H0 B0 F Q r) : PostT R W σ H (Bn R Ls F) F Q r := by
  cases r with
  | ok b e => exact fun H' Ls' s g => h H' Ls' (st.trans s fun a z => z) g
  | err x e => exact fun H' Ls' s g => h H' Ls' (st.trans s fun a z => z) g
  | no => exact h
theorem PostV.by {H0 : Hp} {B0 : Addr → Prop} {Q : VK} (st : Step H0 B0 H (Bn R Ls F) F) {r : Rs (Nat × D)} (h : PostV R W σ H0 B0 F Q r) : PostV R W σ H (Bn R Ls F) F Q r := by
  cases r with
  | ok b e => exact fun v H' Ls' Lt s g x => h v H' Ls' Lt (st.trans s fun a z => z) g x
  | err x e => exact fun H' Ls' s g => h H' Ls' (st.trans s fun a z => z) g
  | no => exact h
theorem pe_notG {a : Expr} {ta : TE} {pos : Pos} (ha : PE X a ta) : PE X (.UnaryOp .Not a pos) fun σ H Q => ta σ H fun x H1 => rTruG x H1 fun k H2 => Q (.bl (!k)) H2 := by
  refine ⟨fun pins s σ H Q I h => UnaryOp_ (thn (ha.run pins s σ H _ I h) fun v s1 ⟨x, H1, I1, r1, q1⟩ => ?_)⟩
  exact not_of (thn (tru_g pins s1 σ H1 x v _ I1 r1 q1) fun c s2 ⟨H2, I2, q2⟩ => ⟨.bl (!c), H2, I2, rfl, q2⟩)
theorem je_not {a : Expr} {x : E} {pos : Pos} (ha : JE g X a x) : JE g X (.UnaryOp .Not a pos) (.not x) := by
  have hv : PE X (.UnaryOp .Not a pos) (tV g.R g.W (ev g.sub g.F (.not x)).val) := (pe_notG ha.plc).imp fun σ H Q z => by
    obtain ⟨e, Ls, F, G, h⟩ := z
    refine tP_then G h (fun _ _ z => z) no_V fun p e' v H' Ls' Lt hr s g pr => ?_
    obtain ⟨r, L', h2, rr⟩ := rdP_all g pr (all_mb.mp hr) no_V
    obtain ⟨k, hk, h3⟩ := mb_op h2 no_V
    obtain ⟨g2, s2, _⟩ := g.letgo s
    exact ⟨_, _, r.1, r.2, L', k, rr, hk, h3 (.bl (!k)) H' Ls' [] s2 g2 (by simp [Rep])⟩
  refine ⟨hv, hv.imp fun σ H Q z => tP_of_tV z, (pt_not ha.tst).imp fun σ H Q z => ?_⟩
  obtain ⟨e, Ls, F, G, h⟩ := z
  exact tT_then G h (fun _ _ z => z) no_T fun b e' H' Ls' hr s g => hr H' Ls' s g
section
variable {a b : Expr} {rest : List Expr} {x y : E} {pos : Pos} {ta tb : TE}
theorem pe_andG (ha : PE X a ta) (hb : PE X (.BoolOp .And (b :: rest) pos) tb) : PE X (.BoolOp .And (a :: b :: rest) pos) fun σ H Q => ta σ H fun x H1 => rTruG x H1 fun k H2 => if k = true then tb σ H2 Q else Q x H2 := by
  refine ⟨fun pins s σ H Q I h => BoolOp_and (thn (ha.run pins s σ H _ I h) fun v s1 ⟨x, H1, I1, r1, q1⟩ => ?_)⟩
  refine thn (tru_g pins s1 σ H1 x v _ I1 r1 q1) fun c s2 ⟨H2, I2, q2⟩ => ?_
  cases c with
  | true => exact hb.run pins s2 σ H2 Q I2 q2
  | false => exact ⟨x, H2, I2, r1, q2⟩
theorem pe_orG (ha : PE X a ta) (hb : PE X (.BoolOp .Or (b :: rest) pos) tb) : PE X (.BoolOp .Or (a :: b :: rest) pos) fun σ H Q => ta σ H fun x H1 => rTruG x H1 fun k H2 => if k = true then Q x H2 else tb σ H2 Q := by
  refine ⟨fun pins s σ H Q I h => BoolOp_or (thn (ha.run pins s σ H _ I h) fun v s1 ⟨x, H1, I1, r1, q1⟩ => ?_)⟩
  refine thn (tru_g pins s1 σ H1 x v _ I1 r1 q1) fun c s2 ⟨H2, I2, q2⟩ => ?_
  cases c with
  | false => exact hb.run pins s2 σ H2 Q I2 q2
  | true => exact ⟨x, H2, I2, r1, q2⟩
theorem jb_and1 (ha : JE g X a x) : JB g X (.BoolOp .And [a] pos) x := ⟨pe_one ha.val, pw_and1 ha.tst⟩
theorem jb_or1 (ha : JE g X a x) : JB g X (.BoolOp .Or [a] pos) x := ⟨pe_one ha.val, pw_or1 ha.tst⟩
theorem jb_and (ha : JE g X a x) (hb : JB g X (.BoolOp .And (b :: rest) pos) y) : JB g X (.BoolOp .And (a :: b :: rest) pos) (.and x y) := by
  refine ⟨(pe_andG ha.val hb.val).imp fun σ H Q z => ?_, (pw_and ha.tst hb.tst).imp fun σ H Q z => ?_⟩
  · obtain ⟨e, Ls, F, G, h⟩ := z
    refine tV_then G h (fun _ _ z => z) no_V fun r e' v H' Ls' Lt hr s g rp => ?_
    obtain ⟨k, hk, h3⟩ := mb_op hr no_V
    refine ⟨_, _, r.1, r.2, Lt, k, rp, hk, ?_⟩
    cases k with
    | true =>
      obtain ⟨g2, s2, _⟩ := g.letgo s
      exact ⟨e', Ls', F, g2, Tr.All.mono h3 fun r z => PostV.by s2 z⟩
    | false => exact h3 v H' Ls' Lt s g rp
  · obtain ⟨e, Ls, F, G, h⟩ := z
    refine tT_then G h (fun _ _ z => z) no_T fun b e' H' Ls' hr s g => ?_
    cases b with
    | true => exact ⟨e', Ls', F, g, Tr.All.mono hr fun r z => PostT.by s z⟩
    | false => exact hr H' Ls' s g
theorem jb_or (ha : JE g X a x) (hb : JB g X (.BoolOp .Or (b :: rest) pos) y) : JB g X (.BoolOp .Or (a :: b :: rest) pos) (.or x y) := by
  refine ⟨(pe_orG ha.val hb.val).imp fun σ H Q z => ?_, (pw_or ha.tst hb.tst).imp fun σ H Q z => ?_⟩
  · obtain ⟨e, Ls, F, G, h⟩ := z
    refine tV_then G h (fun _ _ z => z) no_V fun r e' v H' Ls' Lt hr s g rp => ?_
    obtain ⟨k, hk, h3⟩ := mb_op hr no_V
    refine ⟨_, _, r.1, r.2, Lt, k, rp, hk, ?_⟩
    cases k with
    | false =>
      obtain ⟨g2, s2, _⟩ := g.letgo s
      exact ⟨e', Ls', F, g2, Tr.All.mono h3 fun r z => PostV.by s2 z⟩
    | true => exact h3 v H' Ls' Lt s g rp
  · obtain ⟨e, Ls, F, G, h⟩ := z
    refine tT_then G h (fun _ _ z => z) no_T fun b e' H' Ls' hr s g => ?_
    cases b with
    | false => exact ⟨e', Ls', F, g, Tr.All.mono hr fun r z => PostT.by s z⟩
    | true => exact hr H' Ls' s g
theorem je_and (h : JB g X a (.and x y)) : JE g X a (.and x y) := ⟨h.val, h.val.imp fun σ H Q z => tP_of_tV z, h.tst.pt⟩
theorem je_or (h : JB g X a (.or x y)) : JE g X a (.or x y) := ⟨h.val, h.val.imp fun σ H Q z => tP_of_tV z, h.tst.pt⟩
theorem pt_ifExp {c : Expr} {tc tA tB' : TT} (hc : PT X c tc) (ha : PT X a tA) (hb : PT X b tB') : PT X (.IfExp c a b pos) fun σ H Q => tc σ H fun k H1 => if k = true then tA σ H1 Q else tB' σ H1 Q := by
  refine ⟨fun pins s σ H Q I h => isTrue_IfExp (thn (hc.run pins s σ H _ I h) fun k s1 ⟨H1, I1, q1⟩ => ?_)⟩
  cases k with
  | true => exact ha.run pins s1 σ H1 Q I1 q1
  | false => exact hb.run pins s1 σ H1 Q I1 q1
theorem je_ite {c : Expr} {w : E} (hc : JE g X c w) (ha : JE g X a x) (hb : JE g X b y) : JE g X (.IfExp c a b pos) (.ite w x y) := by
  have hv : PE X (.IfExp c a b pos) (tV g.R g.W (ev g.sub g.F (.ite w x y)).val) := (pe_ifExp hc.tst ha.val hb.val).imp fun σ H Q z => by
    obtain ⟨e, Ls, F, G, h⟩ := z
    refine tT_then G h (fun _ _ z => z) no_V fun b e' H' Ls' hr s g => ?_
    cases b with
    | true => exact ⟨e', Ls', F, g, Tr.All.mono hr fun r z => PostV.by s z⟩
    | false => exact ⟨e', Ls', F, g, Tr.All.mono hr fun r z => PostV.by s z⟩
  refine ⟨hv, hv.imp fun σ H Q z => tP_of_tV z, (pt_ifExp hc.tst ha.tst hb.tst).imp fun σ H Q z => ?_⟩
  obtain ⟨e, Ls, F, G, h⟩ := z
  refine tT_then G h (fun _ _ z => z) no_T fun b e' H' Ls' hr s g => ?_
  cases b with
  | true => exact ⟨e', Ls', F, g, Tr.All.mono hr fun r z => PostT.by s z⟩
  | false => exact ⟨e', Ls', F, g, Tr.All.mono hr fun r z => PostT.by s z⟩

/-! ### one place -/
theorem b1_run {o : B} {r : V → Hp → VK → Prop} {Q : VK} (hat : ∀ {e H Ls F x Q}, At g.R σ e H Ls F g.sub o [x] Q → r x H Q) (h : tV g.R g.W (ev g.sub g.F (.b o (.cons x .nil))).val σ H Q) :
    tP g.R g.W (plOf x (ev g.sub g.F x).val) σ H fun v H1 => r v H1 Q := by
  have h1 := tA_mono (Q' := fun vs H' => ∀ x, vs = [x] → r x H' Q) (op_run (o := o) h) fun vs H' z x e => by
    obtain ⟨_, _, _, z⟩ := z
    subst e
    exact hat z
  exact tP_mono (tA_1 h1) fun x H1 z => z x rfl
theorem je_neg (ha : JE g X a x) : JE g X (.UnaryOp .USub a pos) (.b .neg (.cons x .nil)) := .of ((pe_un un_neg ha.plc).imp fun σ H Q z => b1_run at_neg z) (fun _ => rfl) rfl fun _ => rfl
theorem je_isN {j : Nat} {p : Pos} (ha : JE g X a x) : JE g X (.Compare a [.Is] [.Constant .none j p] pos) (.b .isN (.cons x .nil)) := by
  have hv : PE X (.Compare a [.Is] [.Constant .none j p] pos) (tV g.R g.W (ev g.sub g.F (.b .isN (.cons x .nil))).val) := (pe_cmp (pc_isN ha.plc)).imp fun σ H Q z => b1_run at_isN z
  refine ⟨hv, hv.imp fun σ H Q z => tP_of_tV z, (pt_cmp (pc_isN ha.plc)).imp fun σ H Q z => ?_⟩
  exact tP_mono (b1_run (r := fun x H Q => Q (.bl (decide (x = .non))) H) at_isN (tP_of_tV (tru_run z))) fun v H1 q => ⟨_, rfl, tru_bl q⟩
theorem je_notN {j : Nat} {p : Pos} (ha : JE g X a x) : JE g X (.Compare a [.IsNot] [.Constant .none j p] pos) (.b .notN (.cons x .nil)) := by
  have hv : PE X (.Compare a [.IsNot] [.Constant .none j p] pos) (tV g.R g.W (ev g.sub g.F (.b .notN (.cons x .nil))).val) := (pe_cmp (pc_notN ha.plc)).imp fun σ H Q z => b1_run at_notN z
  refine ⟨hv, hv.imp fun σ H Q z => tP_of_tV z, (pt_cmp (pc_notN ha.plc)).imp fun σ H Q z => ?_⟩
  exact tP_mono (b1_run (r := fun x H Q => Q (.bl (!decide (x = .non))) H) at_notN (tP_of_tV (tru_run z))) fun v H1 q => ⟨_, rfl, tru_bl q⟩
theorem je_in (C : Cok X) (hw : g.R.w = X.w) (ha : JE g X a x) (hb : JE g X b y) (hm : behindInMarks .In b = false := by with_unfolding_all rfl) : JE g X (.Compare a [.In] [b] pos) (.b .inn (.cons x (.cons y .nil))) := je_cmp (or_inA C) br_inA (fun h => by rw [← hw]; exact at_in h) ha hb hm
theorem je_nin (C : Cok X) (hw : g.R.w = X.w) (ha : JE g X a x) (hb : JE g X b y) (hm : behindInMarks .NotIn b = false := by with_unfolding_all rfl) : JE g X (.Compare a [.NotIn] [b] pos) (.b .nin (.cons x (.cons y .nil))) := je_cmp (or_ninA C) br_ninA (fun h => by rw [← hw]; exact at_nin h) ha hb hm
/-! ### tuple(range(..)), list(range(..)) -/
theorem rgOk {n : Int} (h : 0 ≤ n ∧ n ≤ 10000) : RgOk 0 n := by
  obtain ⟨h1, h2⟩ := h
  exact ⟨by omega, by omega, by omega, by omega, by omega⟩
theorem je_tupR {p p1 pos1 : Pos} (C : Cok X) (hg : Gl X "tuple") (hm : X.mg "tuple" = none) (hg1 : Gl X "range") (hm1 : X.mg "range" = none) (ha : JE g X a x) (z1 : Pl1 X pos1 a [] := by exact {}) (z : Pl1 X pos (.Call (.Name "range" p1) [a] [] pos1) [] := by exact {}) :
    JE g X (.Call (.Name "tuple" p) [.Call (.Name "range" p1) [a] [] pos1] [] pos) (.b .tupR (.cons x .nil)) :=
  .of ((pe_tupRg C.calm hg hm (prg_1 hg1 hm1 ha.plc z1.he) z.he).imp fun σ H Q z => by
    refine tP_mono (b1_run at_tupR z) fun v H1 q => ?_
    obtain ⟨n, e, hn, q⟩ := q
    exact ⟨n, e, rgOk hn, q⟩) (fun _ => rfl) rfl fun _ => rfl
theorem je_listR {p p1 pos1 : Pos} (C : Cok X) (hg : Gl X "list") (hm : X.mg "list" = none) (hg1 : Gl X "range") (hm1 : X.mg "range" = none) (ha : JE g X a x) (z1 : Pl1 X pos1 a [] := by exact {}) (z : Pl1 X pos (.Call (.Name "range" p1) [a] [] pos1) [] := by exact {}) :
    JE g X (.Call (.Name "list" p) [.Call (.Name "range" p1) [a] [] pos1] [] pos) (.b .listR (.cons x .nil)) :=
  .of ((pe_listRg C.calm hg hm (prg_1 hg1 hm1 ha.plc z1.he) z.he).imp fun σ H Q z => by
    refine tP_mono (b1_run at_listR z) fun v H1 q => ?_
    obtain ⟨n, e, hn, q⟩ := q
    exact ⟨n, e, rgOk hn, q⟩) (fun _ => rfl) rfl fun _ => rfl
end
end
end G

set_option maxHeartbeats 1000000
/-! G.Snd5: statements; what a for walks; loops. -/
namespace G
open PySem L2 PyProof.Rows
section
variable (g : Cg) (X : Cx)
structure JS (a : Stmt) (s : S) : Prop where
  run : PS X a (tS g.R g.W (evS g.sub g.F s))
structure JSs (as : List Stmt) (ss : Ss) : Prop where
  run : PSs X as (tS g.R g.W (evSs g.sub g.F ss))
end
section
variable {g : Cg} {X : Cx} {R : Rn} {W : WD} {σ : St} {e : Env} {H : Hp} {Ls : Nat → List Addr} {F : List Addr} {sub : Nat → List Nat}
theorem no_S {H : Hp} {B : Addr → Prop} {F : List Addr} {D : Ends} : ¬ PostS R W H B F D .no := fun z => z
theorem err_S {H : Hp} {B : Addr → Prop} {F : List Addr} {D : Ends} {x : G.D} {e : Env} (h : PostS R W H B F D (.err x e)) : ErrK R W σ H B F x e := fun H' Ls' s g => h σ H' Ls' s g
theorem PostS.by {H0 : Hp} {B0 : Addr → Prop} {D : Ends} (st : Step H0 B0 H (Bn R Ls F) F) {r : Rs Fl} (h : PostS R W H0 B0 F D r) : PostS R W H (Bn R Ls F) F D r := by
  match r, h with
  | .ok .nx e, h => exact fun σ' H' Ls' s g => h σ' H' Ls' (st.trans s fun a z => z) g
  | .ok .bk e, h => exact fun σ' H' Ls' s g => h σ' H' Ls' (st.trans s fun a z => z) g
  | .ok .ct e, h => exact fun σ' H' Ls' s g => h σ' H' Ls' (st.trans s fun a z => z) g
  | .ok (.rt n d) e, h => exact fun v σ' H' Ls' Lt s g x => h v σ' H' Ls' Lt (st.trans s fun a z => z) g x
  | .err x e, h => exact fun σ' H' Ls' s g => h σ' H' Ls' (st.trans s fun a z => z) g
  | .no, h => exact h
/-- a statement's end, by its own -/
theorem tS_then {D : Ends} {m : M Fl} (G : Good R σ e H Ls F) {H0 : Hp} {B0 : Addr → Prop} (st : Step H0 B0 H (Bn R Ls F) F) (h : (m e).All (PostS R W H0 B0 F D)) : tS R W m D σ H := ⟨e, Ls, F, G, h.mono fun r z => PostS.by st z⟩

/-! ### stores -/
theorem js_asg {x : Str} {i : Nat} {a : Expr} {y : E} {p pos : Pos} (C : Cok X) (ha : JE g X a y) (hi : X.N[i]? = some x := by rfl) (hx : Loc X.env.scope x := by first | exact Or.inl rfl | exact Or.inr rfl) (hs : swapsWith a (some (.Name x p)) pos.line X.env = pure false := by rfl)
    (hf : X.fn x = true ∨ X.env.scope.names.lookup x = some .local := by first | exact .inl rfl | exact .inr rfl) : JS g X (.Assign [.Name x p] a pos) (.asg i y) := ⟨(ps_set C.nd hi hx ha.val hs hf).imp fun D σ H z => by
  obtain ⟨e, Ls, F, G, h⟩ := z
  refine tV_then G h (fun _ _ z => err_S z) no_S fun r e' v H' Ls' Lt hr s g rp => ?_
  obtain ⟨hl, h2⟩ := setE_all (P := fun r => (mk (fun _ => pu .nx) r).All (PostS _ _ _ _ _ D)) (all_mb.mp hr) no_S
  obtain ⟨g', s'⟩ := g.put rp hl
  exact h2 _ H' _ (s.trans s' fun a z => z) g'⟩
theorem js_ex {a : Expr} {y : E} {pos : Pos} (ha : JE g X a y) (hs : swapsWith a none pos.line X.env = pure false := by rfl) : JS g X (.Expr a pos) (.ex y) := ⟨(ps_expr ha.plc hs).imp fun D σ H z => by
  obtain ⟨e, Ls, F, G, h⟩ := z
  refine tP_then G h (fun _ _ z => err_S z) no_S fun r e' v H' Ls' Lt hr s g rp => ?_
  obtain ⟨g2, s2, _⟩ := g.letgo s
  exact hr _ H' _ s2 g2⟩
theorem js_doc {x : Str} {j : Nat} {p pos : Pos} : JS g X (.Expr (.Constant (.str x) j p) pos) .pss := ⟨ps_doc.imp fun D σ H z => by
  obtain ⟨e, Ls, F, G, h⟩ := z
  exact h σ H Ls .refl G⟩
theorem js_ret {a : Expr} {y : E} {pos : Pos} (ha : JE g X a y) : JS g X (.Return (some a) pos) (.ret y) := ⟨(ps_ret ha.val).imp fun D σ H z => by
  obtain ⟨e, Ls, F, G, h⟩ := z
  exact tV_then G h (fun _ _ z => err_S z) no_S fun r e' v H' Ls' Lt hr s g rp => hr v σ H' Ls' Lt s g rp⟩
theorem js_ret0 {pos : Pos} : JS g X (.Return none pos) .ret0 := ⟨ps_retN.imp fun D σ H z => by
  obtain ⟨e, Ls, F, G, h⟩ := z
  have h : PostS g.R g.W H (Bn g.R Ls F) F D (.ok (.rt 1 .non) e) := h
  exact h .non σ H Ls [] .refl G (by simp [Rep])⟩
theorem js_pass {pos : Pos} : JS g X (.Pass pos) .pss := ⟨ps_pass.imp fun D σ H z => by
  obtain ⟨e, Ls, F, G, h⟩ := z
  exact h σ H Ls .refl G⟩
theorem js_brk {pos : Pos} : JS g X (.Break pos) .brk := ⟨ps_break.imp fun D σ H z => by
  obtain ⟨e, Ls, F, G, h⟩ := z
  exact h σ H Ls .refl G⟩
theorem js_cnt {pos : Pos} : JS g X (.Continue pos) .cnt := ⟨ps_continue.imp fun D σ H z => by
  obtain ⟨e, Ls, F, G, h⟩ := z
  exact h σ H Ls .refl G⟩
theorem js_if {c : Expr} {y : E} {as bs : List Stmt} {xs ys : Ss} {pos : Pos} (hc : JE g X c y) (ha : JSs g X as xs) (hb : JSs g X bs ys) : JS g X (.If c as bs pos) (.ite y xs ys) := ⟨(ps_if hc.tst ha.run hb.run).imp fun D σ H z => by
  obtain ⟨e, Ls, F, G, h⟩ := z
  refine tT_then G h (fun _ _ z => err_S z) no_S fun b e' H' Ls' hr s g => ?_
  cases b with
  | true => exact tS_then g s hr
  | false => exact tS_then g s hr⟩
theorem jss_nil : JSs g X [] .nil := ⟨pss_nil.imp fun D σ H z => by
  obtain ⟨e, Ls, F, G, h⟩ := z
  exact h σ H Ls .refl G⟩
theorem jss_cons {a : Stmt} {as : List Stmt} {x : S} {xs : Ss} (ha : JS g X a x) (hr : JSs g X as xs) : JSs g X (a :: as) (.cons x xs) := ⟨(pss_cons ha.run hr.run).imp fun D σ H z => by
  obtain ⟨e, Ls, F, G, h⟩ := z
  refine ⟨e, Ls, F, G, (all_mb.mp h).mono fun r hr => ?_⟩
  match r, hr with
  | .ok .nx e', hr => exact fun σ' H' Ls' s g => tS_then g s hr
  | .ok .bk e', hr => exact hr
  | .ok .ct e', hr => exact hr
  | .ok (.rt n d) e', hr => exact hr
  | .err x e', hr => exact hr
  | .no, hr => exact hr⟩

/-! ### what a for walks -/
/-- J walks the data xs wherever T holds -/
structure ItOk (R : Rn) (J : It') (xs : List D) (T : Hp → (Addr → Prop) → Prop) : Prop where
  stp : ∀ i H B, T H B → xs.length ≤ i → J.stop i H
  go : ∀ i H B x, T H B → xs[i]? = some x → J.go i H
  yld : ∀ i H B x v H', T H B → xs[i]? = some x → (∀ p, B p → ∃ o, H p = some o) → J.yld i H v H' → (H' = H ∨ ∃ p ys, H p = none ∧ H' = upd H p (.tup ys)) ∧ Rep R H' B 0 x v []
  stay : ∀ H B H' B' F, T H B → Step H B H' B' F → T H' B'
def PostI (R : Rn) (W : WD) (σ : St) (H : Hp) (B : Addr → Prop) (F : List Addr) (K : It' → Hp → Prop) : Rs (List D) → Prop
  | .ok xs e => ∀ J T H' Ls', Step H B H' (Bn R Ls' F) F → Good R σ e H' Ls' F → ItOk R J xs T → T H' (Bn R Ls' F) → K J H'
  | .err x e => ErrK R W σ H B F x e
  | .no => False
def tI (R : Rn) (W : WD) (m : M (List D)) : TI := fun σ H K => ∃ e Ls F, Good R σ e H Ls F ∧ (m e).All (PostI R W σ H (Bn R Ls F) F K)
def itM (sub : Nat → List Nat) (Fs : Nat → Fn) (it : It) (es : Es) : M (List D) := mb (evPs sub Fs es) fun ps => mb (vlPs ps) fun l => op (isem it (l.map (·.2)))
/-- the thing that a for walks -/
def JI (g : Cg) (X : Cx) (tg it : Expr) (o : It) (es : Es) : Prop := PI X tg it (tI g.R g.W (itM g.sub g.F o es))
theorem _root_.L2.PI.imp {X : Cx} {tg it : Expr} {t u : TI} (h : PI X tg it t) (f : ∀ σ H K, u σ H K → t σ H K) : PI X tg it u := ⟨fun pins s σ H K I z => h.run pins s σ H K I (f _ _ _ z)⟩
theorem no_I {H : Hp} {B : Addr → Prop} {F : List Addr} {K : It' → Hp → Prop} : ¬ PostI R W σ H B F K .no := fun z => z
theorem vlI_run {ma : M (List Pl)} {f : List (Nat × D) → M (List D)} {K : It' → Hp → Prop} {T : List V → Hp → Prop} (h : tI R W (mb ma fun ps => mb (vlPs ps) f) σ H K)
    (k : ∀ (l : List (Nat × D)) (e' : Env) (vs : List V) (H' H0 : Hp) (B0 : Addr → Prop) (Ls' : Nat → List Addr) (F : List Addr), (f l e').All (PostI R W σ H0 B0 F K) → Step H0 B0 H' (Bn R Ls' F) F → Good R σ e' H' Ls' F → Reps R H' (Bn R Ls' F) 0 (l.map (·.2)) vs [] → T vs H') : tA R W ma σ H T := by
  obtain ⟨e, Ls, F, G, h⟩ := h
  refine tA_then G h (fun _ _ z => z) no_I fun ps e1 vs H1 Ls1 L1 h1 s1 g1 p1 => ?_
  obtain ⟨l, e2, Ls2, h2, g2, s2, r2⟩ := vlPs_all g1 p1 (all_mb.mp h1) no_I
  refine k l e2 vs H1 H (Bn R Ls F) Ls2 F h2 ⟨s1.ext, s1.frm, fun a z => ?_⟩ g2 r2
  rcases s2.bn a z with y | y
  · exact s1.bn a y
  · obtain ⟨o, q⟩ := g2.has a z
    rw [q] at y
    cases y
/-- .. what is walked, from the data -/
theorem itM_run {it : It} {es : Es} {K : It' → Hp → Prop} {T : List V → Hp → Prop} (h : tI g.R g.W (itM g.sub g.F it es) σ H K)
    (k : ∀ (ds xs : List D) (vs : List V) (H' : Hp) (B : Addr → Prop), isem it ds = some xs → Reps g.R H' B 0 ds vs [] → (∀ a, B a → ∃ o, H' a = some o) → (∀ J T, ItOk g.R J xs T → T H' B → K J H') → T vs H') : tA g.R g.W (evPs g.sub g.F es) σ H T :=
  vlI_run h fun l e' vs H' H0 B0 Ls' F h st gd rp => by
    cases hi : isem it (l.map (·.2)) with
    | none =>
      rw [hi] at h
      exact h.elim
    | some xs =>
      rw [hi] at h
      exact k _ xs vs H' _ hi rp gd.has fun J T ok t => h J T H' Ls' st gd ok t
/-- a list that nobody owns -/
def TL (R : Rn) (a : Addr) (xs : List D) (vs : List V) (H : Hp) (B : Addr → Prop) : Prop := H a = some (.lst vs) ∧ ¬ B a ∧ Reps R H B 0 xs vs []
def TT' (R : Rn) (a : Addr) (xs : List D) (vs : List V) (H : Hp) (B : Addr → Prop) : Prop := H a = some (.tup vs) ∧ ¬ B a ∧ Reps R H B 0 xs vs []
theorem TL.stay {a : Addr} {xs : List D} {vs : List V} {H H' : Hp} {B B' : Addr → Prop} {F : List Addr} (t : TL R a xs vs H B) (s : Step H B H' B' F) : TL R a xs vs H' B' :=
  ⟨s.ext a _ t.1 t.2.1, fun z => (s.bn a z).elim t.2.1 fun q => (by rw [t.1] at q; cases q), t.2.2.by s fun _ z => nomatch z⟩
theorem TT'.stay {a : Addr} {xs : List D} {vs : List V} {H H' : Hp} {B B' : Addr → Prop} {F : List Addr} (t : TT' R a xs vs H B) (s : Step H B H' B' F) : TT' R a xs vs H' B' :=
  ⟨s.ext a _ t.1 t.2.1, fun z => (s.bn a z).elim t.2.1 fun q => (by rw [t.1] at q; cases q), t.2.2.by s fun _ z => nomatch z⟩
theorem it_lst {K : PySem.W.Frag} {a : Addr} {xs : List D} {vs : List V} : ItOk R (Itl K a) xs (TL R a xs vs) where
  stp := fun i H B t h => ⟨vs, .of t.1, by rw [t.2.2.length]; exact h⟩
  go := fun i H B x t h => by
    obtain ⟨v, hv, _⟩ := t.2.2.get h
    exact ⟨vs, v, .of t.1, hv⟩
  yld := fun i H B x v H' t h _ y => by
    obtain ⟨u, hu, ru⟩ := t.2.2.get h
    obtain ⟨rfl, y⟩ := y
    have := y vs (.of t.1)
    rw [hu] at this
    cases this
    exact ⟨.inl rfl, ru⟩
  stay := fun H B H' B' F t s => t.stay s
theorem it_tup {K : PySem.W.Frag} {a : Addr} {xs : List D} {vs : List V} : ItOk R (Itt K a) xs (TT' R a xs vs) where
  stp := fun i H B t h => ⟨vs, .of t.1, by rw [t.2.2.length]; exact h⟩
  go := fun i H B x t h => by
    obtain ⟨v, hv, _⟩ := t.2.2.get h
    exact ⟨vs, v, .of t.1, hv⟩
  yld := fun i H B x v H' t h _ y => by
    obtain ⟨u, hu, ru⟩ := t.2.2.get h
    obtain ⟨rfl, y⟩ := y
    have := y vs (.of t.1)
    rw [hu] at this
    cases this
    exact ⟨.inl rfl, ru⟩
  stay := fun H B H' B' F t s => t.stay s
theorem it_rng {lo hi : Int} : ItOk R (Itr lo (hi - lo).toNat) (rangeD lo hi) (fun _ _ => True) where
  stp := fun i H B _ h => by
    have hl : (rangeD lo hi).length = (hi - lo).toNat := by simp [rangeD]
    rw [hl] at h
    exact h
  go := fun i H B x _ h => by
    have h := (List.getElem?_eq_some_iff.mp h).1
    have hl : (rangeD lo hi).length = (hi - lo).toNat := by simp [rangeD]
    rw [hl] at h
    exact h
  yld := fun i H B x v H' _ h _ y => by
    obtain ⟨rfl, rfl⟩ := y
    unfold rangeD at h
    rw [List.getElem?_map, Option.map_eq_some_iff] at h
    obtain ⟨j, hj, rfl⟩ := h
    obtain ⟨h1, h2⟩ := List.getElem?_eq_some_iff.mp hj
    simp at h2
    subst h2
    exact ⟨.inl rfl, by simp [Rep]⟩
  stay := fun _ _ _ _ _ t _ => t
/-- a list or a tuple -/
def iSeqG (K : PySem.W.Frag) (tl : TE) : TI := fun σ H J => tl σ H fun x H1 => (∃ a xs, x = .ref a ∧ SqL K H1 a xs ∧ J (Itl K a) H1) ∨ ∃ a xs, x = .ref a ∧ SqT K H1 a xs ∧ J (Itt K a) H1
theorem pi_seqG {tg l : Expr} {tl : TE} (hl : PE X l tl) : PI X tg l (iSeqG X.K tl) := by
  refine ⟨fun pins s σ H J I h => thn (hl.run pins s σ H _ I h) fun v s1 ⟨x, H1, I1, r1, q1⟩ => ?_⟩
  have fp : ∀ b ∈ [s1.heap.objs.size], FpOk X pins H1 b := fun b hb => by
    rw [List.mem_singleton.mp hb]
    exact I1.fpOk (Nat.le_refl _) (I1.hok.fresh (Nat.le_refl _))
  rcases q1 with ⟨a, xs, rfl, hq, q⟩ | ⟨a, xs, rfl, hq, q⟩
  · cases r1
    obtain ⟨its, rv, p, hz⟩ := I1.list hq
    exact wpAny_pyIter_list p.isList ⟨s1.heap.objs.size, _, _, _, H1, rfl, I1.kept (t' := s1.toks) fun b o e => Heap.get?_push_of_some _ e, turn_list a _, ⟨_, Heap.get?_push_size _ rfl, rfl, rfl⟩, fp, q⟩
  · cases r1
    obtain ⟨its, rv, p, hz⟩ := I1.tuple hq
    exact wpAny_pyIter_tuple (show s1.heap.IsTuple a its.toArray from p) ⟨s1.heap.objs.size, _, _, _, H1, rfl, I1.kept (t' := s1.toks) fun b o e => Heap.get?_push_of_some _ e, turn_tuple a _, ⟨_, Heap.get?_push_size _ rfl, rfl, rfl⟩, fp, q⟩
theorem isem_seq {ds xs : List D} (h : isem .seq ds = some xs) : (ds = [.lst xs]) ∨ ds = [.tup xs] := by
  unfold isem at h
  split at h <;> first | (cases h; exact .inl rfl) | (cases h; exact .inr rfl) | (rename_i z; cases z) | cases h
theorem ji_seq {tg a : Expr} {x : E} (ha : JE g X a x) : JI g X tg a .seq (.cons x .nil) := (pi_seqG ha.plc).imp fun σ H K z => by
  have h1 := itM_run (T := fun vs H' => ∀ v, vs = [v] → (∃ a xs, v = .ref a ∧ SqL X.K H' a xs ∧ K (Itl X.K a) H') ∨ ∃ a xs, v = .ref a ∧ SqT X.K H' a xs ∧ K (Itt X.K a) H') z fun ds xs vs H' B hi rp hb k v ev => by
    subst ev
    rcases isem_seq hi with rfl | rfl
    · obtain ⟨v', vs', e0, r1, r2⟩ := rp.uncons
      cases e0
      simp only [Rep] at r1
      obtain ⟨p, ys, rfl, e1, nb, _, q1⟩ := r1
      exact .inl ⟨p, ys, rfl, .of e1, k _ _ it_lst ⟨e1, nb, q1⟩⟩
    · obtain ⟨v', vs', e0, r1, r2⟩ := rp.uncons
      cases e0
      obtain ⟨p, ys, rfl, e1, nb, q1⟩ := r1.tup rfl
      exact .inr ⟨p, ys, rfl, .of e1, k _ _ it_tup ⟨e1, nb, q1⟩⟩
  exact tP_mono (tA_1 h1) fun v H1 z => z v rfl
theorem isem_r1 {ds xs : List D} (h : isem .range1 ds = some xs) : ∃ n : Int, ds = [.int n] ∧ (-1000000000 < n ∧ n < 1000000000) ∧ xs = rangeD 0 n := by
  match ds, h with
  | [.int n], h =>
    simp only [isem] at h
    split at h
    · rename_i hn
      cases h
      exact ⟨n, rfl, hn, rfl⟩
    · cases h
theorem ji_range1 {tg a : Expr} {xs : Es} {p pos : Pos} (hg : Gl X "range") (hm : X.mg "range" = none) (ha : JA g X [a] xs) (hs : starEach [a] X.env = [(false, eval a X.env)] := by rfl) : JI g X tg (.Call (.Name "range" p) [a] [] pos) .range1 xs :=
  (pi_range1 hg hm ha hs).imp fun σ H K z => itM_run z fun ds ys vs H' B hi rp hb k => by
    obtain ⟨n, rfl, hn, rfl⟩ := isem_r1 hi
    obtain ⟨v', vs', rfl, r1, r2⟩ := rp.uncons
    simp only [Reps] at r2
    obtain ⟨rfl, _⟩ := r2
    have k2 := k (Itr 0 (n - 0).toNat) _ it_rng trivial
    rw [Int.sub_zero] at k2
    exact ⟨n, by rw [r1.int], by omega, by omega, k2⟩
theorem isem_r2 {ds xs : List D} (h : isem .range2 ds = some xs) : ∃ n m : Int, ds = [.int n, .int m] ∧ (-1000000000 < n ∧ n < 1000000000) ∧ (-1000000000 < m ∧ m < 1000000000) ∧ xs = rangeD n m := by
  match ds, h with
  | [.int n, .int m], h =>
    simp only [isem] at h
    split at h
    · rename_i hn
      cases h
      exact ⟨n, m, rfl, hn.1, hn.2, rfl⟩
    · cases h
theorem ji_range2 {tg a b : Expr} {xs : Es} {p pos : Pos} (hg : Gl X "range") (hm : X.mg "range" = none) (ha : JA g X [a, b] xs) (hs : starEach [a, b] X.env = [(false, eval a X.env), (false, eval b X.env)] := by rfl) (hs2 : starEach [b] X.env = [(false, eval b X.env)] := by rfl) :
    JI g X tg (.Call (.Name "range" p) [a, b] [] pos) .range2 xs :=
  (pi_range2 hg hm ha hs hs2).imp fun σ H K z => itM_run z fun ds ys vs H' B hi rp hb k => by
    obtain ⟨n, m, rfl, hn, hm, rfl⟩ := isem_r2 hi
    obtain ⟨v', vs', rfl, r1, r2⟩ := rp.uncons
    obtain ⟨v2, vs2, rfl, r3, r4⟩ := r2.uncons
    simp only [Reps] at r4
    obtain ⟨rfl, _⟩ := r4
    exact ⟨n, m, by rw [r1.int, r3.int], ⟨by omega, by omega, by omega, by omega⟩, k _ _ it_rng trivial⟩
end
end G

set_option maxHeartbeats 1000000
/-! G.Snd6: targets, loops, what changes a list. -/
namespace G
open PySem L2 PyProof.Rows
section
variable {g : Cg} {X : Cx} {R : Rn} {W : WD} {σ : St} {e : Env} {H : Hp} {Ls : Nat → List Addr} {F : List Addr} {sub : Nat → List Nat}

/-- a temporary is given away -/
theorem Good.froze {H0 : Hp} {B0 : Addr → Prop} {Lt : List Addr} {n : Nat} {d : D} {v : V} (g : Good R σ e H Ls (Lt ++ F)) (st : Step H0 B0 H (Bn R Ls (Lt ++ F)) F) (rp : Rep R H (Bn R Ls (Lt ++ F)) n d v Lt) : Good R σ e H Ls F ∧ Step H0 B0 H (Bn R Ls F) F ∧ Rep R H (Bn R Ls F) 0 d v [] := by
  have fd := List.nodup_append.mp g.fd
  obtain ⟨g2, s2, s3⟩ := g.letgo st
  refine ⟨g2, s2, Rep.frz n d v Lt (fun a z => ⟨s3.bn a z, fun y => ?_⟩) rp⟩
  rcases z with z | ⟨i, z⟩ | z
  · exact fd.2.2 a y a z rfl
  · exact g.fr i a z (List.mem_append_left _ y)
  · exact (g.ra a z).1 (List.mem_append_left _ y)

/-! ### targets -/
/-- only slots of these names differ -/
def OnlyIn (is : List Nat) (σ σ' : St) : Prop := ∀ vs : List Nat, (∀ i ∈ is, i ∈ vs) → wipe σ' vs = wipe σ vs
theorem wipe_get {σ : St} : ∀ {vs : List Nat} {i : Nat}, i ∉ vs → (wipe σ vs)[i]? = σ[i]?
  | [], _, _ => rfl
  | v :: vs, i, h => by
    have h1 : i ≠ v := fun z => h (by simp [z])
    unfold wipe
    rw [List.getElem?_set_ne (Ne.symm h1)]
    exact wipe_get fun z => h (List.mem_cons_of_mem _ z)
theorem wipe_none {σ : St} : ∀ {vs : List Nat} {i : Nat}, i ∈ vs → i < σ.length → (wipe σ vs)[i]? = some none
  | v :: vs, i, h, hl => by
    unfold wipe
    by_cases h1 : i = v
    · subst h1
      exact List.getElem?_set_self (by rw [wipe_length]; exact hl)
    · rw [List.getElem?_set_ne (Ne.symm h1)]
      exact wipe_none ((List.mem_cons.mp h).resolve_left h1) hl
theorem wipe_setI {σ : St} {vs : List Nat} {i : Nat} {x : Option V} (h : i ∈ vs) : wipe (σ.set i x) vs = wipe σ vs := by
  apply List.ext_getElem?
  intro j
  by_cases hj : j ∈ vs
  · by_cases hl : j < σ.length
    · rw [wipe_none hj hl, wipe_none hj (by simpa using hl)]
    · rw [List.getElem?_eq_none (by rw [wipe_length]; simpa using hl), List.getElem?_eq_none (by rw [wipe_length]; simpa using hl)]
  · rw [wipe_get hj, wipe_get hj, List.getElem?_set_ne fun z => hj (by rw [← z]; exact h)]
theorem OnlyIn.refl {is : List Nat} {σ : St} : OnlyIn is σ σ := fun _ _ => rfl
theorem OnlyIn.set {is : List Nat} {σ σ' : St} {i : Nat} {x : Option V} (h : OnlyIn is (σ.set i x) σ') : OnlyIn (i :: is) σ σ' := fun vs hv => by
  rw [h vs fun j hj => hv j (List.mem_cons_of_mem _ hj), wipe_setI (hv i List.mem_cons_self)]
def PostG (R : Rn) (is : List Nat) (σ : St) (H : Hp) (B : Addr → Prop) (F : List Addr) (Q : St → Hp → Prop) : Rs Unit → Prop
  | .ok _ e => ∀ σ' Ls', OnlyIn is σ σ' → Step H B H (Bn R Ls' F) F → Good R σ' e H Ls' F → Q σ' H
  | .err _ _ => True
  | .no => False
def tG (R : Rn) (is : List Nat) : TG := fun v σ H Q => ∃ d e Ls F, Good R σ e H Ls F ∧ Rep R H (Bn R Ls F) 0 d v [] ∧ (bindT is d e).All (PostG R is σ H (Bn R Ls F) F Q)
def JG (g : Cg) (X : Cx) (tg : Expr) (is : List Nat) : Prop := PG X tg (tG g.R is)
theorem no_G {is : List Nat} {H : Hp} {B : Addr → Prop} {F : List Addr} {Q : St → Hp → Prop} : ¬ PostG R is σ H B F Q .no := fun z => z
theorem _root_.L2.PG.imp {X : Cx} {tg : Expr} {t u : TG} (h : PG X tg t) (f : ∀ v σ H K, u v σ H K → t v σ H K) : PG X tg u := ⟨fun pins s σ H v w K I r z => h.run pins s σ H v w K I r (f _ _ _ _ z)⟩
/-- one name takes a datum -/
theorem set_run {β : Type} {i : Nat} {d : D} {v : V} {f : Unit → M β} {P : Rs β → Prop} (G : Good R σ e H Ls F) (r : Rep R H (Bn R Ls F) 0 d v []) (h : (mb (setE i (0, d)) f e).All P) (hn : ¬ P .no) :
    ∃ Ls', Good R (σ.set i (some v)) (e.set i (some (0, d))) H Ls' F ∧ Step H (Bn R Ls F) H (Bn R Ls' F) F ∧ (f () (e.set i (some (0, d)))).All P := by
  obtain ⟨hl, h2⟩ := setE_all (all_mb.mp h) hn
  obtain ⟨g', s'⟩ := Good.put (Lt := []) G r hl
  exact ⟨_, g', s', h2⟩
theorem jg_name {x : Str} {i : Nat} {pos : Pos} (C : Cok X) (hi : X.N[i]? = some x := by rfl) (hx : Loc X.env.scope x := by first | exact Or.inl rfl | exact Or.inr rfl) (hf : X.fn x = true ∨ X.env.scope.names.lookup x = some .local := by first | exact .inl rfl | exact .inr rfl) : JG g X (.Name x pos) [i] :=
  (pg_name C.nd hi hx hf).imp fun v σ H Q z => by
    obtain ⟨d, e, Ls, F, G, r, h⟩ := z
    have h : (setE i (0, d) e).All (PostG g.R [i] σ H (Bn g.R Ls F) F Q) := h
    obtain ⟨hl, h2⟩ := setE_all h no_G
    obtain ⟨g', s'⟩ := Good.put (Lt := []) G r hl
    exact h2 _ _ (OnlyIn.set .refl) s' g'
def gNms : List Nat → TGs
  | [] => gNil
  | i :: is => gCons (gName i) (gNms is)
def JGs (X : Cx) (ts : List Expr) (is : List Nat) : Prop := PGs X ts (gNms is)
theorem jgs_nil : JGs X [] [] := pgs_nil
theorem jgs_cons {x : Str} {i : Nat} {pos : Pos} {ts : List Expr} {is : List Nat} (C : Cok X) (hr : JGs X ts is) (hi : X.N[i]? = some x := by rfl) (hx : Loc X.env.scope x := by first | exact Or.inl rfl | exact Or.inr rfl) (hf : X.fn x = true ∨ X.env.scope.names.lookup x = some .local := by first | exact .inl rfl | exact .inr rfl)
    (hs : (assignEach (.Name x pos :: ts) X.env).map (·.2) = assign (.Name x pos) X.env :: (assignEach ts X.env).map (·.2) := by rfl) : JGs X (.Name x pos :: ts) (i :: is) := pgs_cons (pg_name C.nd hi hx hf) hr hs
theorem nms_run {Q : St → Hp → Prop} : ∀ {is : List Nat} {ds : List D} {vs : List V} {σ : St} {e : Env} {Ls Ls0 : Nat → List Addr} {B0 : Addr → Prop}, Good R σ e H Ls F → Step H B0 H (Bn R Ls F) F → Reps R H (Bn R Ls F) 0 ds vs [] → (bindTs is ds e).All (PostG R is σ H B0 F Q) → gNms is vs σ H Q ∧ is.length = vs.length
  | [], [], vs, σ, e, Ls, _, B0, G, st, r, h => by
    simp only [Reps] at r
    obtain ⟨rfl, _⟩ := r
    exact ⟨⟨rfl, h σ Ls .refl st G⟩, rfl⟩
  | i :: is, d :: ds, vs, σ, e, Ls, _, B0, G, st, r, h => by
    obtain ⟨v, vs', rfl, r1, r2⟩ := r.uncons
    obtain ⟨Ls', G', s', h'⟩ := set_run G r1 h no_G
    obtain ⟨z1, z2⟩ := nms_run (Ls0 := Ls) G' (st.trans s' fun a z => z) (r2.by s' fun _ z => nomatch z) (Tr.All.mono h' fun r z => match r, z with
      | .ok _ e2, z => fun σ' Ls' o => z σ' Ls' (OnlyIn.set o)
      | .err _ _, z => z
      | .no, z => z)
    exact ⟨⟨v, vs', rfl, z1⟩, by simp [z2]⟩
  | [], _ :: _, _, _, _, _, _, _, _, _, _, h => h.elim
  | _ :: _, [], _, _, _, _, _, _, _, _, _, h => h.elim
theorem tG_tup {is : List Nat} {v : V} {Q : St → Hp → Prop} {K : PySem.W.Frag} (hi : 2 ≤ is.length) (z : tG R is v σ H Q) : gTup K is.length (gNms is) v σ H Q := by
  obtain ⟨d, e, Ls, F, G, r, h⟩ := z
  match is, hi with
  | i :: j :: is, _ =>
    match d, h with
    | .tup l, h =>
      obtain ⟨a, xs, rfl, e1, nb, q1⟩ := r.tup rfl
      obtain ⟨z1, z2⟩ := nms_run (Ls0 := Ls) G .refl q1 h
      exact ⟨a, xs, rfl, .of e1, z2.symm, z1⟩
    | .non, h => exact h.elim
    | .bl _, h => exact h.elim
    | .int _, h => exact h.elim
    | .str _, h => exact h.elim
    | .lst _, h => exact h.elim
    | .dct _, h => exact h.elim
    | .set _, h => exact h.elim
    | .ins _ _, h => exact h.elim
    | .exn _ _, h => exact h.elim
    | .clo _ _, h => exact h.elim
    | .rnd, h => exact h.elim
    | .scr _, h => exact h.elim
theorem jg_tup {ts : List Expr} {is : List Nat} {k : Nat} {pos : Pos} (C : Cok X) (h : JGs X ts is) (hi : 2 ≤ is.length := by decide) (hn : (assignEach ts X.env).length = is.length := by rfl) (hst : (assignEach ts X.env).findIdx? (·.1) = none := by rfl) : JG g X (.Tuple ts k pos) is :=
  (pg_tup C.calm h hn hst).imp fun v σ H Q z => tG_tup hi z
/-- a, b, .. = e -/
theorem js_unp {ts : List Expr} {is : List Nat} {k : Nat} {p pos : Pos} {a : Expr} {y : E} (C : Cok X) (h : JGs X ts is) (ha : JE g X a y) (hi : 2 ≤ is.length := by decide) (hn : (assignEach ts X.env).length = is.length := by rfl) (hst : (assignEach ts X.env).findIdx? (·.1) = none := by rfl)
    (hs : swapsWithSole [.Tuple ts k p] a pos.line X.env = pure false := by rfl) (hw : swappedStores [.Tuple ts k p] a X.env = pure none := by rfl) (h1 : (assignEach [.Tuple ts k p] X.env).map (·.2) = [assign (.Tuple ts k p) X.env] := by rfl) :
    JS g X (.Assign [.Tuple ts k p] a pos) (.unp is y) := ⟨(ps_asg ha.val (jg_tup (g := g) C h hi hn hst) hs hw h1).imp fun D σ H z => by
  obtain ⟨e, Ls, F, G, h⟩ := z
  refine tV_then G h (fun _ _ z => err_S z) no_S fun r e' v H' Ls' Lt hr s gd rp => ?_
  obtain ⟨g2, s2, r0⟩ := gd.froze s rp
  have h3 : (bindT is r.2 e').All (PostG g.R is σ H' (Bn g.R Ls' F) F D.nx) := by
    match is, hi with
    | i :: j :: is, _ =>
      have hr : (mb (unpE (i :: j :: is) r.2) (fun _ => pu Fl.nx) e').All (PostS g.R g.W H (Bn g.R Ls F) F D) := hr
      generalize r.2 = d at hr
      match d, hr with
      | .tup l, hr =>
        have hr : (mb (bindTs (i :: j :: is) l) (fun _ => pu Fl.nx) e').All (PostS g.R g.W H (Bn g.R Ls F) F D) := hr
        exact (all_mb.mp hr).mono fun q hq => match q, hq with
          | .ok _ e2, hq => fun σ' Ls2 _ st gg => hq σ' H' Ls2 (s2.trans st fun a z => z) gg
          | .err _ _, _ => trivial
          | .no, hq => hq
      | .non, hr => exact hr.elim
      | .bl _, hr => exact hr.elim
      | .int _, hr => exact hr.elim
      | .str _, hr => exact hr.elim
      | .lst _, hr => exact hr.elim
      | .dct _, hr => exact hr.elim
      | .set _, hr => exact hr.elim
      | .ins _ _, hr => exact hr.elim
      | .exn _ _, hr => exact hr.elim
      | .clo _ _, hr => exact hr.elim
      | .rnd, hr => exact hr.elim
      | .scr _, hr => exact hr.elim
  exact ⟨r.2, e', Ls', F, g2, r0, h3⟩⟩
end
end G

set_option maxHeartbeats 1000000
/-! G.Snd7: loops, several stores at once, what changes a list. -/
namespace G
open PySem L2 PyProof.Rows
section
variable {g : Cg} {X : Cx} {R : Rn} {W : WD} {σ : St} {e : Env} {H : Hp} {Ls : Nat → List Addr} {F : List Addr} {sub : Nat → List Nat}

/-! ### loops -/
/-- behind i items -/
structure ForAt (R : Rn) (W : WD) (H0 : Hp) (B0 : Addr → Prop) (F : List Addr) (D : Ends) (T : Hp → (Addr → Prop) → Prop) (bind : G.D → M Unit) (body : M Fl) (xs : List G.D) (i : Nat) (σ : St) (H : Hp) : Prop where
  ex : ∃ e Ls, Good R σ e H Ls F ∧ Step H0 B0 H (Bn R Ls F) F ∧ T H (Bn R Ls F) ∧ (forL bind body (xs.drop i) e).All (PostS R W H0 B0 F D)
theorem for_run {it : It} {es : Es} {tg : List Nat} {body : M Fl} {D : Ends} (h : tS R W (mb (evPs sub g.F es) fun ps => mb (vlPs ps) fun l => mb (op (isem it (l.map (·.2)))) fun xs => forL (bindT tg) body xs) D σ H) :
    tFor (tI R W (itM sub g.F it es)) (tG R tg) (tS R W body) D σ H := by
  have eq : (mb (evPs sub g.F es) fun ps => mb (vlPs ps) fun l => mb (op (isem it (l.map (·.2)))) fun xs => forL (bindT tg) body xs) = mb (itM sub g.F it es) fun xs => forL (bindT tg) body xs := by
    unfold itM
    simp only [mb_assoc]
  rw [eq] at h
  obtain ⟨e, Ls, F, G, h⟩ := h
  refine ⟨e, Ls, F, G, (all_mb.mp h).mono fun r hr => ?_⟩
  match r, hr with
  | .err x e', hr => exact err_S hr
  | .no, hr => exact hr
  | .ok xs e', hr =>
    intro J T H1 Ls1 s1 g1 ok t1
    refine ⟨fun i m σ' H' => i ≤ xs.length ∧ m = xs.length - i ∧ ForAt R W H (Bn R Ls F) F D T (bindT tg) body xs i σ' H', ⟨xs.length, by omega, by omega, ⟨e', Ls1, g1, s1, t1, hr⟩⟩, ?_⟩
    rintro i m σ' H' ⟨hi, rfl, ⟨e2, Ls2, g2, s2, t2, h2⟩⟩
    by_cases hlt : i < xs.length
    · refine .inr ⟨ok.go i H' _ _ t2 (List.getElem?_eq_getElem hlt), fun σ'' H'' => i + 1 ≤ xs.length ∧ ForAt R W H (Bn R Ls F) F D T (bindT tg) body xs (i + 1) σ'' H'', fun σ'' H'' ⟨q1, q2⟩ => ⟨xs.length - (i + 1), by omega, q1, rfl, q2⟩, fun v H3 y => ?_⟩
      obtain ⟨hH, rp⟩ := ok.yld i H' _ _ v H3 t2 (List.getElem?_eq_getElem hlt) g2.has y
      have key : Good R σ' e2 H3 Ls2 F ∧ Step H' (Bn R Ls2 F) H3 (Bn R Ls2 F) F := by
        rcases hH with rfl | ⟨p, o, hp, rfl⟩
        · exact ⟨g2, .refl⟩
        · exact g2.newT hp
      obtain ⟨g3, s3⟩ := key
      have t3 := ok.stay _ _ _ _ _ t2 s3
      rw [List.drop_eq_getElem_cons hlt] at h2
      have h2 : (mb (bindT tg xs[i]) (fun _ => mb body fun f => match f with
        | .nx => forL (bindT tg) body (xs.drop (i + 1))
        | .ct => forL (bindT tg) body (xs.drop (i + 1))
        | .bk => pu .nx
        | .rt n d => pu (.rt n d)) e2).All (PostS R W H (Bn R Ls F) F D) := h2
      refine ⟨xs[i], e2, Ls2, F, g3, rp, (all_mb.mp h2).mono fun r hr => ?_⟩
      match r, hr with
      | .err x e', hr => trivial
      | .no, hr => exact hr
      | .ok _ e3, hr =>
        intro σ4 Ls4 _ s4 g4
        refine ⟨e3, Ls4, F, g4, (all_mb.mp hr).mono fun r hr => ?_⟩
        have s04 : Step H (Bn R Ls F) H3 (Bn R Ls4 F) F := (s2.trans s3 fun a z => z).trans s4 fun a z => z
        have t4 := ok.stay _ _ _ _ _ t3 s4
        match r, hr with
        | .ok .nx e5, hr => exact fun σ5 H5 Ls5 s5 g5 => ⟨hlt, ⟨e5, Ls5, g5, s04.trans s5 fun a z => z, ok.stay _ _ _ _ _ t4 s5, hr⟩⟩
        | .ok .ct e5, hr => exact fun σ5 H5 Ls5 s5 g5 => ⟨hlt, ⟨e5, Ls5, g5, s04.trans s5 fun a z => z, ok.stay _ _ _ _ _ t4 s5, hr⟩⟩
        | .ok .bk e5, hr => exact fun σ5 H5 Ls5 s5 g5 => hr σ5 H5 Ls5 (s04.trans s5 fun a z => z) g5
        | .ok (.rt n d) e5, hr => exact fun v5 σ5 H5 Ls5 L5 s5 g5 x5 => hr v5 σ5 H5 Ls5 L5 (s04.trans s5 fun a z => z) g5 x5
        | .err x e5, hr => exact fun σ5 H5 Ls5 s5 g5 => hr σ5 H5 Ls5 (s04.trans s5 fun a z => z) g5
        | .no, hr => exact hr
    · have hn : xs.drop i = [] := List.drop_eq_nil_of_le (by omega)
      rw [hn] at h2
      exact .inl ⟨ok.stp i H' _ t2 (by omega), h2 σ' H' Ls2 s2 g2⟩
theorem js_for {tg it : Expr} {is : List Nat} {o : It} {es : Es} {bs : List Stmt} {ys : Ss} {pos : Pos} (C : Cok X) (hi : JI g X tg it o es) (hg : JG g X tg is) (hb : JSs g X bs ys) (hs : ∀ x, foldedSetIterable it X.env x = pure x := by intro _; rfl) :
    JS g X (.For tg it bs [] pos) (.for_ is o es ys) := ⟨(ps_for C.own C.calm hi hg hb.run hs).imp fun D σ H z => for_run z⟩
theorem while_run {test : M Bool} {body : M Fl} {k : Nat} {D : Ends} (h : tS R W (whlL test body k) D σ H) : tWhile (tT R W test) (tS R W body) D σ H := by
  obtain ⟨e, Ls, F, G, h⟩ := h
  refine ⟨fun m σ' H' => ∃ e' Ls', Good R σ' e' H' Ls' F ∧ Step H (Bn R Ls F) H' (Bn R Ls' F) F ∧ (whlL test body m e').All (PostS R W H (Bn R Ls F) F D), ⟨k, e, Ls, G, .refl, h⟩, ?_⟩
  rintro m σ' H' ⟨e1, Ls1, g1, s1, h1⟩
  cases m with
  | zero => exact h1.elim
  | succ m =>
    refine ⟨e1, Ls1, F, g1, (all_mb.mp h1).mono fun r hr => ?_⟩
    match r, hr with
    | .err x e', hr => exact fun H5 Ls5 s5 g5 => hr σ' H5 Ls5 (s1.trans s5 fun a z => z) g5
    | .no, hr => exact hr
    | .ok b e2, hr =>
      intro H2 Ls2 s2 g2
      have s02 : Step H (Bn R Ls F) H2 (Bn R Ls2 F) F := s1.trans s2 fun a z => z
      cases b with
      | false => exact hr σ' H2 Ls2 s02 g2
      | true =>
        refine ⟨fun σ5 H5 => ∃ e' Ls', Good R σ5 e' H5 Ls' F ∧ Step H (Bn R Ls F) H5 (Bn R Ls' F) F ∧ (whlL test body m e').All (PostS R W H (Bn R Ls F) F D), fun σ5 H5 q => ⟨m, Nat.lt_succ_self m, q⟩, ?_⟩
        refine ⟨e2, Ls2, F, g2, (all_mb.mp hr).mono fun r hr => ?_⟩
        match r, hr with
        | .ok .nx e5, hr => exact fun σ5 H5 Ls5 s5 g5 => ⟨e5, Ls5, g5, s02.trans s5 fun a z => z, hr⟩
        | .ok .ct e5, hr => exact fun σ5 H5 Ls5 s5 g5 => ⟨e5, Ls5, g5, s02.trans s5 fun a z => z, hr⟩
        | .ok .bk e5, hr => exact fun σ5 H5 Ls5 s5 g5 => hr σ5 H5 Ls5 (s02.trans s5 fun a z => z) g5
        | .ok (.rt n d) e5, hr => exact fun v5 σ5 H5 Ls5 L5 s5 g5 x5 => hr v5 σ5 H5 Ls5 L5 (s02.trans s5 fun a z => z) g5 x5
        | .err x e5, hr => exact fun σ5 H5 Ls5 s5 g5 => hr σ5 H5 Ls5 (s02.trans s5 fun a z => z) g5
        | .no, hr => exact hr
theorem js_while {c : Expr} {y : E} {bs : List Stmt} {ys : Ss} {k : Nat} {pos : Pos} (C : Cok X) (hc : JE g X c y) (hb : JSs g X bs ys) : JS g X (.While c bs [] pos) (.whl k y ys) := ⟨(ps_while C.own hc.tst hb.run).imp fun D σ H z => while_run z⟩

/-! ### several stores at once -/
/-- data that are taken: their owners stay apart -/
def TReps (R : Rn) (H : Hp) (B : Addr → Prop) : List (Nat × D) → List V → List Addr → Prop
  | [], vs, L => vs = [] ∧ L = []
  | r :: t, vs, L => ∃ v vs' L1 L2, vs = v :: vs' ∧ L = L1 ++ L2 ∧ Rep R H B r.1 r.2 v L1 ∧ TReps R H B t vs' L2
theorem TReps.by {H' : Hp} {B B' : Addr → Prop} {F' : List Addr} (s : Step H B H' B' F') : ∀ {ps : List (Nat × D)} {vs : List V} {L : List Addr}, (∀ a ∈ L, H' a = H a) → TReps R H B ps vs L → TReps R H' B' ps vs L
  | [], _, _, _, h => h
  | p :: r, _, _, hL, h => by
    obtain ⟨v, vs', L1, L2, rfl, rfl, h1, h2⟩ := h
    exact ⟨v, vs', L1, L2, rfl, rfl, h1.by s fun a z => hL a (List.mem_append_left _ z), TReps.by s (fun a z => hL a (List.mem_append_right _ z)) h2⟩
theorem tkPs_all : ∀ {ps : List Pl} {vs : List V} {Lt L0 : List Addr} {e : Env} {Ls : Nat → List Addr} {P : Rs (List (Nat × D)) → Prop}, Good R σ e H Ls (L0 ++ (Lt ++ F)) → PReps R H (Bn R Ls (L0 ++ (Lt ++ F))) σ ps vs Lt → (vlPs ps e).All P → ¬ P .no →
    ∃ l e' Ls', P (.ok l e') ∧ Good R σ e' H Ls' (L0 ++ (Lt ++ F)) ∧ Step H (Bn R Ls (L0 ++ (Lt ++ F))) H (Bn R Ls' (L0 ++ (Lt ++ F))) (L0 ++ (Lt ++ F)) ∧ TReps R H (Bn R Ls' (L0 ++ (Lt ++ F))) l vs Lt
  | [], vs, Lt, L0, e, Ls, P, g, pr, h, hn => by
    obtain ⟨rfl, rfl⟩ := pr
    exact ⟨[], e, Ls, h, g, .refl, rfl, rfl⟩
  | .t n d :: ps, vs, Lt, L0, e, Ls, P, g, pr, h, hn => by
    obtain ⟨v, vs', L1, L2, rfl, rfl, h1, h2⟩ := pr
    have h' : (mb (vlPs ps) (fun l => pu ((n, d) :: l)) e).All P := h
    have eq : L0 ++ ((L1 ++ L2) ++ F) = (L0 ++ L1) ++ (L2 ++ F) := by simp
    rw [eq] at g h1 h2 ⊢
    obtain ⟨l, e2, Ls2, q2, g2, s2, r2⟩ := tkPs_all g h2 (all_mb.mp h') hn
    exact ⟨_, e2, Ls2, q2, g2, s2, v, vs', L1, L2, rfl, rfl, Rep.by s2 (fun _ _ => rfl) h1, r2⟩
  | .v i :: ps, vs, Lt, L0, e, Ls, P, g, pr, h, hn => by
    obtain ⟨v, vs', L1, L2, rfl, rfl, ⟨rfl, h1⟩, h2⟩ := pr
    have h' : (mb (frzE i) (fun a => mb (vlPs ps) fun l => pu (a :: l)) e).All P := h
    have h0 := all_mb.mp h'
    obtain ⟨⟨n, d⟩, h3, _⟩ := getE_all (all_mb.mp h0) hn
    obtain ⟨v', e1, g', st, rp⟩ := Good.give g h3
    rw [h1] at e1
    cases e1
    rw [frzE_ok h3] at h0
    have h4 : (mb (vlPs ps) (fun l => pu ((0, d) :: l)) (e.set i (some (0, d)))).All P := h0
    obtain ⟨l, e2, Ls2, q2, g2, s2, r2⟩ := tkPs_all g' (PReps.by st (fun _ _ => rfl) h2) (all_mb.mp h4) hn
    exact ⟨_, e2, Ls2, q2, g2, st.trans s2 fun a z => z, v, vs', [], L2, rfl, rfl, rp.by s2 (fun _ _ => rfl), r2⟩
/-- what is taken goes into the slots, one after another -/
def setσ : List Nat → List V → St → St
  | i :: is, v :: vs, σ => setσ is vs (σ.set i (some v))
  | _, _, σ => σ
theorem setAll_run {D : Ends} {H0 : Hp} {B0 : Addr → Prop} : ∀ {is : List Nat} {l : List (Nat × G.D)} {vs : List V} {Lt : List Addr} {σ : St} {e : Env} {Ls : Nat → List Addr}, Good R σ e H Ls (Lt ++ F) → Step H0 B0 H (Bn R Ls (Lt ++ F)) F → TReps R H (Bn R Ls (Lt ++ F)) l vs Lt →
    (mb (setAll is l) (fun _ => pu Fl.nx) e).All (PostS R W H0 B0 F D) → is.length = vs.length ∧ D.nx (setσ is vs σ) H
  | [], [], vs, Lt, σ, e, Ls, g, st, r, h => by
    obtain ⟨rfl, rfl⟩ := r
    exact ⟨rfl, h σ H Ls st g⟩
  | i :: is, d :: l, vs, Lt, σ, e, Ls, g, st, r, h => by
    obtain ⟨v, vs', L1, L2, rfl, rfl, r1, r2⟩ := r
    have h : (mb (mb (setE i d) fun _ => setAll is l) (fun _ => pu Fl.nx) e).All (PostS R W H0 B0 F D) := h
    rw [mb_assoc] at h
    obtain ⟨hl, h2⟩ := setE_all (all_mb.mp h) no_S
    rw [List.append_assoc] at g r1 r2 st
    obtain ⟨g', s'⟩ := g.put r1 hl
    have st' : Step H0 B0 H (Bn R (updL Ls i L1) (L2 ++ F)) F := st.trans (F1 := F) ⟨s'.ext, fun a z => rfl, s'.bn⟩ fun a z => z
    obtain ⟨z1, z2⟩ := setAll_run g' st' (r2.by s' fun _ _ => rfl) h2
    exact ⟨by simp [z1], z2⟩
  | [], _ :: _, _, _, _, _, _, _, _, _, h => h.elim
  | _ :: _, [], _, _, _, _, _, _, _, _, h => h.elim
theorem par_run {is : List Nat} {es : Es} {D : Ends} (h : tS g.R g.W (evS g.sub g.F (.par is es)) D σ H) : tA g.R g.W (evPs g.sub g.F es) σ H fun vs H1 => is.length = vs.length ∧ D.nx (setσ is vs σ) H1 := by
  obtain ⟨e, Ls, F, G, h⟩ := h
  refine tA_then G h (fun _ _ z => err_S z) no_S fun ps e1 vs H1 Ls1 L1 h1 s1 g1 p1 => ?_
  obtain ⟨l, e2, Ls2, h2, g2, s2, r2⟩ := tkPs_all (L0 := []) g1 p1 (all_mb.mp h1) no_S
  exact setAll_run (Lt := L1) (F := F) g2 (s1.trans ⟨s2.ext, fun a z => rfl, s2.bn⟩ fun a z => z) r2 h2
section
variable {a b c : Expr} {es : Es} {x y z : Str} {px py pz pt pos pt2 : Pos} {kt k2 : Nat} {i j l : Nat}
theorem js_par2 (C : Cok X) (ha : JA g X [a, b] es) (hi : X.N[i]? = some x := by rfl) (hj : X.N[j]? = some y := by rfl) (hij : i ≠ j := by decide) (hx : X.env.scope.names.lookup x = some .local := by rfl) (hy : X.env.scope.names.lookup y = some .local := by rfl)
    (hw : swappedStores [.Tuple [.Name x px, .Name y py] kt pt] (.Tuple [a, b] k2 pt2) X.env = pure (some [x, y]) := by rfl) (hs : swapsWithSole [.Tuple [.Name x px, .Name y py] kt pt] (.Tuple [a, b] k2 pt2) pos.line X.env = pure false := by rfl) :
    JS g X (.Assign [.Tuple [.Name x px, .Name y py] kt pt] (.Tuple [a, b] k2 pt2) pos) (.par [i, j] es) := ⟨(ps_par C.calm C.nd hi hj hij hx hy ha hw hs).imp fun D σ H z => tA_mono (par_run z) fun vs H1 ⟨h1, h2⟩ => by
  match vs, h1 with
  | [v, w], _ => exact ⟨v, w, rfl, h2⟩⟩
theorem js_par3 (C : Cok X) (ha : JA g X [a, b, c] es) (hi : X.N[i]? = some x := by rfl) (hj : X.N[j]? = some y := by rfl) (hl : X.N[l]? = some z := by rfl) (hij : i ≠ j := by decide) (hil : i ≠ l := by decide) (hjl : j ≠ l := by decide) (hx : X.env.scope.names.lookup x = some .local := by rfl) (hy : X.env.scope.names.lookup y = some .local := by rfl) (hz : X.env.scope.names.lookup z = some .local := by rfl)
    (hw : swappedStores [.Tuple [.Name x px, .Name y py, .Name z pz] kt pt] (.Tuple [a, b, c] k2 pt2) X.env = pure (some [x, y, z]) := by rfl) (hs : swapsWithSole [.Tuple [.Name x px, .Name y py, .Name z pz] kt pt] (.Tuple [a, b, c] k2 pt2) pos.line X.env = pure false := by rfl) :
    JS g X (.Assign [.Tuple [.Name x px, .Name y py, .Name z pz] kt pt] (.Tuple [a, b, c] k2 pt2) pos) (.par [i, j, l] es) := ⟨(ps_par3 C.calm C.nd hi hj hl hij hil hjl hx hy hz ha hw hs).imp fun D σ H z => tA_mono (par_run z) fun vs H1 ⟨h1, h2⟩ => by
  match vs, h1 with
  | [u, v, w], _ => exact ⟨u, v, w, rfl, h2⟩⟩
end
end
end G

set_option maxHeartbeats 1000000
/-! G.Snd8: what changes a list; isinstance; repr. -/
namespace G
open PySem L2 PyProof.Rows
section
variable {g : Cg} {X : Cx} {R : Rn} {W : WD} {σ : St} {e : Env} {H : Hp} {Ls : Nat → List Addr} {F : List Addr} {sub : Nat → List Nat}

/-! ### a list that a slot owns is changed -/
theorem Good.mutL {i : Nat} {l l' : List D} (g : Good R σ e H Ls F) (hi : e[i]? = some (some (1, .lst l))) :
    ∃ a xs, σ[i]? = some (some (.ref a)) ∧ H a = some (.lst xs) ∧ Reps R H (Bn R Ls F) 0 l xs [] ∧
      ∀ ys, Reps R H (Bn R Ls F) 0 l' ys [] → Good R σ (e.set i (some (1, .lst l'))) (upd H a (.lst ys)) Ls F ∧ Step H (Bn R Ls F) (upd H a (.lst ys)) (Bn R Ls F) F := by
  obtain ⟨v, e1, r⟩ := g.rep i 1 _ hi
  simp only [Rep] at r
  obtain ⟨a, xs, L', rfl, ha, hL, hr⟩ := r
  have z := Reps.zero l xs L' hr
  subst z
  refine ⟨a, xs, e1, ha, hr, fun ys hy => ?_⟩
  have mem : a ∈ Ls i := by rw [hL]; exact List.mem_cons_self
  have nF : a ∉ F := g.fr i a mem
  have nj : ∀ j, j ≠ i → a ∉ Ls j := fun j hj z => g.dis j i hj a z mem
  have st : Step H (Bn R Ls F) (upd H a (.lst ys)) (Bn R Ls F) F :=
    ⟨fun b o q nb => by rw [upd_ne fun z => nb (by rw [z]; exact .inr (.inl ⟨i, mem⟩))]; exact q, fun b hb => upd_ne fun z => nF (by rw [← z]; exact hb), fun b hb => .inl hb⟩
  have hil : i < e.length := (List.getElem?_eq_some_iff.mp hi).1
  have nra : ∀ b, RnA R b → b ≠ a := fun b hb z => (g.ra b hb).2 i (by rw [z]; exact mem)
  refine ⟨⟨by simpa using g.len, fun j m d' h => ?_, g.nd, g.dis, g.fr, g.fd, fun b hb => ?_, ?_, g.ra⟩, st⟩
  · by_cases hj : j = i
    · subst hj
      rw [List.getElem?_set_self hil] at h
      cases h
      refine ⟨_, e1, ?_⟩
      simp only [Rep]
      exact ⟨a, ys, [], rfl, upd_same, hL, hy.by st fun _ z => nomatch z⟩
    · rw [List.getElem?_set_ne (Ne.symm hj)] at h
      obtain ⟨v', e2, r'⟩ := g.rep j m d' h
      exact ⟨v', e2, r'.by st fun b hb => upd_ne fun z => nj j hj (by rw [← z]; exact hb)⟩
  · by_cases hb' : b = a
    · rw [hb']; exact ⟨_, upd_same, fun _ => lst_no⟩
    · obtain ⟨o, q, nq⟩ := g.own b hb
      exact ⟨o, by rw [upd_ne hb']; exact q, nq⟩
  · exact g.rnd.upd nra (.inr ⟨_, ha⟩) fun _ z => nomatch z
theorem Reps.set {B : Addr → Prop} {n : Nat} {d : D} {v : V} (h1 : Rep R H B n d v []) : ∀ {ds : List D} {xs : List V} (k : Nat), Reps R H B n ds xs [] → Reps R H B n (ds.set k d) (xs.set k v) []
  | [], xs, k, h => by
    simp only [Reps] at h
    rw [h.1]
    exact .nil
  | _ :: _, _, 0, h => by
    obtain ⟨v', vs, rfl, r1, r2⟩ := h.uncons
    exact .cons h1 r2
  | _ :: _, _, k + 1, h => by
    obtain ⟨v', vs, rfl, r1, r2⟩ := h.uncons
    exact .cons r1 (Reps.set h1 k r2)
theorem Reps.erase {B : Addr → Prop} {n : Nat} : ∀ {ds : List D} {xs : List V} (k : Nat), Reps R H B n ds xs [] → Reps R H B n (ds.eraseIdx k) (xs.eraseIdx k) []
  | [], xs, k, h => by
    simp only [Reps] at h
    rw [h.1]
    exact .nil
  | _ :: _, _, 0, h => by
    obtain ⟨v', vs, rfl, r1, r2⟩ := h.uncons
    exact r2
  | _ :: _, _, k + 1, h => by
    obtain ⟨v', vs, rfl, r1, r2⟩ := h.uncons
    exact .cons r1 (Reps.erase k r2)
/-- what the rule of a change is to reach -/
structure MuAt (R : Rn) (σ : St) (H : Hp) (i : Nat) (o : Mu) (ds : List D) (vs : List V) (Q : VK) : Prop where
  ex : ∃ (a : Addr) (xs : List V) (l l' : List D) (d : D) (B : Addr → Prop), σ[i]? = some (some (.ref a)) ∧ H a = some (.lst xs) ∧ Reps R H B 0 l xs [] ∧ Reps R H B 0 ds vs [] ∧ msem o (.lst l) ds = some (.lst l', d) ∧
    ∀ ys v, Reps R H B 0 l' ys [] → Rep R H B 0 d v [] → Q v (upd H a (.lst ys))
theorem msem_lst {o : Mu} {d : D} {ds : List D} {r : D × D} (h : msem o d ds = some r) : ∃ l l', d = .lst l ∧ r.1 = .lst l' := by
  unfold msem at h
  split at h
  · split at h
    · cases h; exact ⟨_, _, rfl, rfl⟩
    · cases h
  · split at h
    · cases h; exact ⟨_, _, rfl, rfl⟩
    · cases h
  · split at h
    · split at h
      · split at h
        · cases h; exact ⟨_, _, rfl, rfl⟩
        · cases h
      · cases h
    · cases h
  · split at h
    · cases h; exact ⟨_, _, rfl, rfl⟩
    · cases h
  · split at h
    · cases h; exact ⟨_, _, rfl, rfl⟩
    · cases h
  · cases h; exact ⟨_, _, rfl, rfl⟩
  · split at h
    · cases h; exact ⟨_, _, rfl, rfl⟩
    · cases h
  · cases h
theorem mu_run {β : Type} {o : Mu} {i : Nat} {ds : List D} {vs : List V} {f : Nat × D → M β} {P : Rs β → Prop} (G : Good R σ e H Ls F) (rp : Reps R H (Bn R Ls F) 0 ds vs []) (h : (mb (muE o i ds) f e).All P) (hn : ¬ P .no) (Q : VK)
    (k : ∀ d e' v H', (f (0, d) e').All P → Good R σ e' H' Ls F → Step H (Bn R Ls F) H' (Bn R Ls F) F → Rep R H' (Bn R Ls F) 0 d v [] → Q v H') : MuAt R σ H i o ds vs Q := by
  have h0 := all_mb.mp h
  unfold muE at h0
  obtain ⟨⟨n, d0⟩, h1, h2⟩ := getE_all (all_mb.mp h0) hn
  have h2 : ((tst (n == 1) (mb (op (msem o d0 ds)) fun r => mb (setE i (1, r.1)) fun _ => pu (0, r.2))) e).All fun r => (mk f r).All P := h2
  obtain ⟨hn1, h3⟩ := tst_all h2 hn
  have en : n = 1 := by simpa using hn1
  subst en
  obtain ⟨⟨d1, d⟩, hm, h4⟩ := mb_op h3 hn
  obtain ⟨l, l', e0, e1⟩ := msem_lst hm
  subst e0
  have e1 : d1 = .lst l' := e1
  subst e1
  obtain ⟨a, xs, ha, hH, hr, kk⟩ := G.mutL (l' := l') h1
  obtain ⟨hl, h5⟩ := setE_all (all_mb.mp h4) hn
  refine ⟨a, xs, l, l', d, Bn R Ls F, ha, hH, hr, rp, hm, fun ys v hy hv => ?_⟩
  obtain ⟨g', s'⟩ := kk ys hy
  exact k d _ v _ h5 g' s' (hv.by s' fun _ z => nomatch z)
/-- x.m(..) -/
theorem mcall_run {o : Mu} {i : Nat} {es : Es} {r : V → List V → Hp → VK → Prop} {K : PySem.W.Frag} {Q : VK} (hat : ∀ {σ H ds vs Q a}, MuAt g.R σ H i o ds vs Q → σ[i]? = some (some a) → r a vs H Q)
    (h : tV g.R g.W (ev g.sub g.F (.mu o i es)).val σ H Q) : tBM K "list" r (tVar i) (tA g.R g.W (evPs g.sub g.F es)) σ H Q := by
  obtain ⟨e, Ls, F, G, h⟩ := h
  have h : (mb (getE i) (fun x0 => tst (isL x0.2) (mb (evPs g.sub g.F es) fun ps => mb (vlPs ps) fun l => muE o i (l.map (·.2)))) e).All (PostV g.R g.W σ H (Bn g.R Ls F) F Q) := h
  obtain ⟨⟨n, d0⟩, h1, h2⟩ := getE_all (all_mb.mp h) no_V
  have h2 : (tst (isL d0) (mb (evPs g.sub g.F es) fun ps => mb (vlPs ps) fun l => muE o i (l.map (·.2))) e).All (PostV g.R g.W σ H (Bn g.R Ls F) F Q) := h2
  obtain ⟨hL, h3⟩ := tst_all h2 no_V
  obtain ⟨v, e1, rv⟩ := G.rep i n d0 h1
  refine ⟨v, e1, ?_, ?_⟩
  · match d0, hL, rv with
    | .lst l, _, rv =>
      have z : ∃ a xs, v = .ref a ∧ H a = some (.lst xs) := by
        cases n with
        | zero => simp only [Rep] at rv; obtain ⟨a, xs, rfl, e, _⟩ := rv; exact ⟨a, xs, rfl, e⟩
        | succ n => simp only [Rep] at rv; obtain ⟨a, xs, L', rfl, e, _⟩ := rv; exact ⟨a, xs, rfl, e⟩
      obtain ⟨a, xs, rfl, ha⟩ := z
      exact .inl ⟨rfl, xs, .of ha⟩
  · refine vl_run (f := fun l => muE o i (l.map (·.2))) (Q := Q) ⟨e, Ls, F, G, h3⟩ fun l e' vs H' H0 B0 Ls' F h4 st gd rp => ?_
    refine hat (mu_run (f := pu) (P := PostV g.R g.W σ H0 B0 F Q) gd rp (by
      have z : mb (muE o i (l.map (·.2))) pu = muE o i (l.map (·.2)) := by
        funext e
        show (muE o i (l.map (·.2)) e).bind (mk pu) = _
        rw [show (mk pu : Rs (Nat × D) → Tr (Rs (Nat × D))) = Tr.ret from by funext r; cases r <;> rfl, Tr.bind_ret]
      rw [z]
      exact h4) no_V Q fun d e2 v H2 h5 g5 s5 r5 => h5 v H2 Ls' [] (st.trans s5 fun a z => z) g5 r5) e1
theorem mu_append {i : Nat} {ds : List D} {vs : List V} {Q : VK} {a : V} (h : MuAt R σ H i .append ds vs Q) (ha : σ[i]? = some (some a)) : rAppend a vs H Q := by
  obtain ⟨p, xs, l, l', d, B, h1, h2, h3, h4, h5, k⟩ := h
  rw [ha] at h1
  cases h1
  match ds, h5 with
  | [x], h5 =>
    simp only [msem] at h5
    split at h5
    · rename_i hz
      cases h5
      obtain ⟨v, vs', rfl, r1, r2⟩ := h4.uncons
      simp only [Reps] at r2
      obtain ⟨rfl, _⟩ := r2
      exact ⟨p, xs, v, rfl, rfl, h2, by rw [h3.length]; exact hz, k _ _ (h3.app (.cons r1 .nil)) (by simp [Rep])⟩
    · cases h5
theorem mu_pop0 {i : Nat} {ds : List D} {vs : List V} {Q : VK} {a : V} (h : MuAt R σ H i .pop0 ds vs Q) (ha : σ[i]? = some (some a)) : rPop a vs H Q := by
  obtain ⟨p, xs, l, l', d, B, h1, h2, h3, h4, h5, k⟩ := h
  rw [ha] at h1
  cases h1
  match ds, h5 with
  | [], h5 =>
    simp only [msem] at h5
    split at h5
    · rename_i x hx
      cases h5
      simp only [Reps] at h4
      obtain ⟨rfl, _⟩ := h4
      rw [List.getLast?_eq_getElem?] at hx
      obtain ⟨v, hv, rv⟩ := h3.get hx
      refine ⟨p, xs, v, rfl, rfl, h2, by rw [h3.length]; exact hv, k _ _ ?_ rv⟩
      rw [List.dropLast_eq_take, List.dropLast_eq_take, h3.length]
      exact h3.take _
    · cases h5
theorem ixN_bd {n : Nat} {i : Int} {k : Nat} (h : ixN n i = some k) (hn : n ≤ sizeLine) : -(2 ^ 63) ≤ i ∧ i < 2 ^ 63 := by
  obtain ⟨_, _, h1, h2⟩ := ixN_seq h
  rw [sizeLine_eq] at hn
  omega
theorem mu_pop1 {i : Nat} {ds : List D} {vs : List V} {Q : VK} {a : V} (h : MuAt R σ H i .pop1 ds vs Q) (ha : σ[i]? = some (some a)) : rPopAt a vs H Q := by
  obtain ⟨p, xs, l, l', d, B, h1, h2, h3, h4, h5, k⟩ := h
  rw [ha] at h1
  cases h1
  match ds, h5 with
  | [.int j], h5 =>
    simp only [msem] at h5
    split at h5
    · rename_i hz
      split at h5
      · rename_i m hm
        split at h5
        · rename_i x hx
          cases h5
          obtain ⟨v, vs', rfl, r1, r2⟩ := h4.uncons
          simp only [Reps] at r2
          obtain ⟨rfl, _⟩ := r2
          obtain ⟨w, hw, rw'⟩ := h3.get hx
          rw [← h3.length] at hm hz
          obtain ⟨b1, b2⟩ := ixN_bd hm hz
          exact ⟨p, xs, j, m, w, rfl, by rw [r1.int], h2, b1, b2, (ixN_seq hm).1, hw, k _ _ (h3.erase m) rw'⟩
        · cases h5
      · cases h5
    · cases h5
theorem mu_clear {i : Nat} {ds : List D} {vs : List V} {Q : VK} {a : V} (h : MuAt R σ H i .clear ds vs Q) (ha : σ[i]? = some (some a)) : rClear a vs H Q := by
  obtain ⟨p, xs, l, l', d, B, h1, h2, h3, h4, h5, k⟩ := h
  rw [ha] at h1
  cases h1
  match ds, h5 with
  | [], h5 =>
    simp only [msem] at h5
    cases h5
    simp only [Reps] at h4
    obtain ⟨rfl, _⟩ := h4
    exact ⟨p, xs, rfl, rfl, h2, k _ _ .nil (by simp [Rep])⟩
theorem mu_extend {i : Nat} {ds : List D} {vs : List V} {Q : VK} {a : V} (h : MuAt R σ H i .extend ds vs Q) (ha : σ[i]? = some (some a)) : rExtend a vs H Q := by
  obtain ⟨p, xs, l, l', d, B, h1, h2, h3, h4, h5, k⟩ := h
  rw [ha] at h1
  cases h1
  match ds, h5 with
  | [.lst m], h5 =>
    simp only [msem] at h5
    split at h5
    · rename_i hz
      cases h5
      obtain ⟨v, vs', rfl, r1, r2⟩ := h4.uncons
      simp only [Reps] at r2
      obtain ⟨rfl, _⟩ := r2
      simp only [Rep] at r1
      obtain ⟨q, zs, rfl, e1, nb, _, q1⟩ := r1
      exact ⟨p, q, xs, zs, rfl, rfl, h2, e1, by rw [h3.length, q1.length]; exact hz, k _ _ (h3.app q1) (by simp [Rep])⟩
    · cases h5
def rInsertG : V → List V → Hp → VK → Prop := fun x vs H Q => ∃ (l : Addr) (xs : List V) (i : Int) (y : V), x = .ref l ∧ vs = [.int i, y] ∧ H l = some (.lst xs) ∧ xs.length < sizeLine ∧ 0 ≤ i ∧ i < 2 ^ 63 ∧ Q .non (upd H l (.lst (xs.take i.toNat ++ [y] ++ xs.drop i.toNat)))
theorem mu_insert {i : Nat} {ds : List D} {vs : List V} {Q : VK} {a : V} (h : MuAt R σ H i .insert ds vs Q) (ha : σ[i]? = some (some a)) : rInsertG a vs H Q := by
  obtain ⟨p, xs, l, l', d, B, h1, h2, h3, h4, h5, k⟩ := h
  rw [ha] at h1
  cases h1
  match ds, h5 with
  | [.int j, x], h5 =>
    simp only [msem] at h5
    split at h5
    · rename_i hz
      cases h5
      obtain ⟨v, vs', rfl, r1, r2⟩ := h4.uncons
      obtain ⟨w, vs2, rfl, r3, r4⟩ := r2.uncons
      simp only [Reps] at r4
      obtain ⟨rfl, _⟩ := r4
      exact ⟨p, xs, j, w, rfl, by rw [r1.int], h2, by rw [h3.length]; exact hz.2.2, hz.1, by omega, k _ _ (((h3.take _).app (.cons r3 .nil)).app (h3.drop _)) (by simp [Rep])⟩
    · cases h5
end
end G

set_option maxHeartbeats 1000000
/-! G.Snd9: methods of lists, item stores, isinstance, repr, comprehensions. -/
namespace G
open PySem L2 PyProof.Rows
section
variable {g : Cg} {X : Cx} {R : Rn} {W : WD} {σ : St} {e : Env} {H : Hp} {Ls : Nat → List Addr} {F : List Addr} {sub : Nat → List Nat}
section
variable {x : Str} {i : Nat} {a b : Expr} {as : List Expr} {es : Es} {p apos cpos : Pos}
/-- what the text of x.m(a, ..) asks -/
structure PlM (X : Cx) (x m : Str) (p apos cpos : Pos) (a : Expr) (as : List Expr) : Prop where
  hbase : attributeBase (.Name x p) m X.env (eval (.Name x p) X.env) = eval (.Name x p) X.env := by rfl
  hfew : ((backTo cpos (starEach (a :: as) X.env)).all (fun x => !x.1) && (backToKw cpos (keywordEach [] X.env)).all (fun x => x.1.isSome)
      && decide ((a :: as).length + ([] : List Keyword).length + (if ([] : List Keyword).isEmpty then 0 else 1) < 30)) = true := by rfl
  hline : (apos.endLine == cpos.line) = true := by rfl
  hs : starEach (a :: as) X.env = (false, eval a X.env) :: starEach as X.env := by rfl
  hpl : (backTo cpos (starEach as X.env)).any (·.1) = false := by rfl
theorem je_mc {o : Mu} {m : Str} {id : String} {r : V → List V → Hp → VK → Prop} (slot : Slot "list" m id) (hty : typeOf (.builtin id) = pure (.type "method_descriptor")) (hm : MtR X id r) (hat : ∀ {σ H ds vs Q a}, MuAt g.R σ H i o ds vs Q → σ[i]? = some (some a) → r a vs H Q)
    (hv : PE X (.Name x p) (tVar i)) (ha : JA g X (a :: as) es) (z : PlM X x m p apos cpos a as) : JE g X (.Call (.Attribute (.Name x p) m apos) (a :: as) [] cpos) (.mu o i es) :=
  .of ((pe_bm PySem.F.plainAttrs_list slot hty hm hv ha z.hbase z.hfew z.hline z.hs z.hpl).imp fun σ H Q h => mcall_run hat h) (fun _ => rfl) rfl fun _ => rfl
theorem je_mc0 {o : Mu} {m : Str} {id : String} {r : V → List V → Hp → VK → Prop} (slot : Slot "list" m id) (hty : typeOf (.builtin id) = pure (.type "method_descriptor")) (hm : MtR X id r) (hat : ∀ {σ H ds vs Q a}, MuAt g.R σ H i o ds vs Q → σ[i]? = some (some a) → r a vs H Q)
    (hv : PE X (.Name x p) (tVar i)) (hbase : attributeBase (.Name x p) m X.env (eval (.Name x p) X.env) = eval (.Name x p) X.env) (hline : (apos.endLine == cpos.line) = true) : JE g X (.Call (.Attribute (.Name x p) m apos) [] [] cpos) (.mu o i .nil) :=
  .of ((pe_bm0 PySem.F.plainAttrs_list slot hty hm hv hbase hline).imp fun σ H Q h => by
    obtain ⟨v, e1, h1, h2⟩ := mcall_run (K := X.K) hat h
    exact ⟨v, e1, h1, tA_nil h2⟩) (fun _ => rfl) rfl fun _ => rfl
theorem je_append (hv : PE X (.Name x p) (tVar i)) (ha : JA g X [a] es) (z : PlM X x "append" p apos cpos a [] := by exact {}) : JE g X (.Call (.Attribute (.Name x p) "append" apos) [a] [] cpos) (.mu .append i es) := je_mc PySem.F.slot_list_append PySem.F.type_list_append mt_append mu_append hv ha z
theorem je_pop1 (hv : PE X (.Name x p) (tVar i)) (ha : JA g X [a] es) (z : PlM X x "pop" p apos cpos a [] := by exact {}) : JE g X (.Call (.Attribute (.Name x p) "pop" apos) [a] [] cpos) (.mu .pop1 i es) := je_mc PySem.F.slot_list_pop PySem.F.type_list_pop mt_popAt mu_pop1 hv ha z
theorem je_extend (hv : PE X (.Name x p) (tVar i)) (ha : JA g X [a] es) (z : PlM X x "extend" p apos cpos a [] := by exact {}) : JE g X (.Call (.Attribute (.Name x p) "extend" apos) [a] [] cpos) (.mu .extend i es) := je_mc PySem.F.slot_list_extend PySem.F.type_list_extend mt_extend mu_extend hv ha z
theorem je_insert (hv : PE X (.Name x p) (tVar i)) (ha : JA g X [a, b] es) (z : PlM X x "insert" p apos cpos a [b] := by exact {}) : JE g X (.Call (.Attribute (.Name x p) "insert" apos) [a, b] [] cpos) (.mu .insert i es) := je_mc (r := rInsertG) PySem.F.slot_list_insert PySem.F.type_list_insert mt_insert mu_insert hv ha z
theorem je_pop0 (hv : PE X (.Name x p) (tVar i)) (hbase : attributeBase (.Name x p) "pop" X.env (eval (.Name x p) X.env) = eval (.Name x p) X.env := by rfl) (hline : (apos.endLine == cpos.line) = true := by rfl) : JE g X (.Call (.Attribute (.Name x p) "pop" apos) [] [] cpos) (.mu .pop0 i .nil) := je_mc0 PySem.F.slot_list_pop PySem.F.type_list_pop mt_pop mu_pop0 hv hbase hline
theorem je_clear (hv : PE X (.Name x p) (tVar i)) (hbase : attributeBase (.Name x p) "clear" X.env (eval (.Name x p) X.env) = eval (.Name x p) X.env := by rfl) (hline : (apos.endLine == cpos.line) = true := by rfl) : JE g X (.Call (.Attribute (.Name x p) "clear" apos) [] [] cpos) (.mu .clear i .nil) := je_mc0 PySem.F.slot_list_clear PySem.F.type_list_clear mt_clear mu_clear hv hbase hline
/-! ### x[k] = v -/
theorem put_run {y w : E} {D : Ends} (h : tS g.R g.W (evS g.sub g.F (.put i y w)) D σ H) :
    tAsg (tP g.R g.W (plOf w (ev g.sub g.F w).val)) (gSub (tVar i) (tP g.R g.W (plOf y (ev g.sub g.F y).val)) rSetL) D σ H := by
  obtain ⟨e, Ls, F, G, h⟩ := h
  have h : (mb (getE i) (fun _ => mb (evPs g.sub g.F (.cons w (.cons y .nil))) fun ps => mb (vlPs ps) fun l => mb (muE .put i (l.map (·.2)).reverse) fun _ => pu .nx) e).All (PostS g.R g.W H (Bn g.R Ls F) F D) := h
  obtain ⟨⟨n, d0⟩, h1, h2⟩ := getE_all (all_mb.mp h) no_S
  obtain ⟨v, e1, rv⟩ := G.rep i n d0 h1
  have h2 : (mb (mb (plOf w (ev g.sub g.F w).val) fun p => mb (mb (plOf y (ev g.sub g.F y).val) fun p => mb (pu []) fun ps => pu (p :: ps)) fun ps => pu (p :: ps)) (fun ps => mb (vlPs ps) fun l => mb (muE .put i (l.map (·.2)).reverse) fun _ => pu .nx) e).All (PostS g.R g.W H (Bn g.R Ls F) F D) := h2
  simp only [mb_assoc, mb_pu] at h2
  refine tP_step (L1 := []) (vs := []) (ps := []) G .refl ⟨rfl, rfl⟩ h2 (fun _ _ z => err_S z) no_S fun p e1' u H1 Ls1 L1 h3 g1 s1 p1 => ?_
  refine ⟨v, e1, ?_⟩
  refine tP_step g1 s1 p1 h3 (fun _ _ z => err_S z) no_S fun q e2 t H2 Ls2 L2 h4 g2 s2 p2 => ?_
  obtain ⟨l, e3, Ls3, h5, g3, s3, r3⟩ := vlPs_all g2 p2 (all_mb.mp h4) no_S
  have st : Step H (Bn g.R Ls F) H2 (Bn g.R Ls3 F) F := ⟨s2.ext, s2.frm, fun a z => by
    rcases s3.bn a z with y | y
    · exact s2.bn a y
    · obtain ⟨o, q⟩ := g3.has a z
      rw [q] at y
      cases y⟩
  have r4 : Reps g.R H2 (Bn g.R Ls3 F) 0 (l.map (·.2)).reverse [t, u] [] := r3.rev
  obtain ⟨a, xs, m, m', d, B, z1, z2, z3, z4, z5, z6⟩ := mu_run g3 r4 h5 no_S (fun _ H' => D.nx σ H') fun d e4 v4 H4 h6 g6 s6 _ => h6 σ H4 Ls3 (st.trans s6 fun a z => z) g6
  rw [e1] at z1
  cases z1
  generalize (l.map (·.2)).reverse = ds at z4 z5
  match ds, z5 with
  | [.int j, c], z5 =>
    simp only [msem] at z5
    split at z5
    · rename_i k hk
      cases z5
      obtain ⟨v', vs', e0, r1, r2⟩ := z4.uncons
      cases e0
      obtain ⟨v2, vs2, e0, r5, r6⟩ := r2.uncons
      cases e0
      rw [← z3.length] at hk
      exact ⟨a, xs, j, k, rfl, r1.int, z2, hk, z6 _ .non (z3.set r5 k) (by simp [Rep])⟩
    · cases z5
theorem js_put {y w : E} {tpos pos : Pos} (hv : PE X (.Name x p) (tVar i)) (hb : JE g X b y) (ha : JE g X a w)
    (hset : ∀ v, assign (.Subscript (.Name x p) b tpos) X.env v = (do
      let ov ← holding [v] (eval (.Name x p) X.env)
      let iv ← holding [v, ov] (eval b X.env)
      standAt tpos
      holding [v, ov, iv] (setItem ov iv v)
      release [v, ov, iv] []) := by intro _; rfl)
    (hs : swapsWithSole [.Subscript (.Name x p) b tpos] a pos.line X.env = pure false := by rfl) (hw : swappedStores [.Subscript (.Name x p) b tpos] a X.env = pure none := by rfl) (h1 : (assignEach [.Subscript (.Name x p) b tpos] X.env).map (·.2) = [assign (.Subscript (.Name x p) b tpos) X.env] := by rfl) :
    JS g X (.Assign [.Subscript (.Name x p) b tpos] a pos) (.put i y w) := ⟨(ps_asg ha.plc (pg_sub hv hb.plc set_list hset) hs hw h1).imp fun D σ H z => put_run z⟩
end
end
end G

set_option maxHeartbeats 1000000
/-! G.Snd10: comprehensions of lists. -/
namespace G
open PySem L2 PyProof.Rows
section
variable {g : Cg} {X : Cx} {R : Rn} {W : WD} {σ : St} {e : Env} {H : Hp} {Ls : Nat → List Addr} {F : List Addr} {sub : Nat → List Nat}
theorem wipeE_get : ∀ {own : List Nat} {e : Env} {i : Nat}, i ∉ own → (wipeE own e)[i]? = e[i]?
  | [], _, _, _ => rfl
  | v :: vs, e, i, h => by
    have h1 : i ≠ v := fun z => h (by simp [z])
    show (wipeE vs (e.set v none))[i]? = e[i]?
    rw [wipeE_get fun z => h (List.mem_cons_of_mem _ z), List.getElem?_set_ne (Ne.symm h1)]
theorem wipe_wipe {σ : St} {own : List Nat} : wipe (wipe σ own) own = wipe σ own := by
  apply List.ext_getElem?
  intro j
  by_cases hj : j ∈ own
  · by_cases hl : j < σ.length
    · rw [wipe_none hj (by rw [wipe_length]; exact hl), wipe_none hj hl]
    · rw [List.getElem?_eq_none (by rw [wipe_length, wipe_length]; simpa using hl), List.getElem?_eq_none (by rw [wipe_length]; simpa using hl)]
  · rw [wipe_get hj]
theorem wipeE_len : ∀ {own : List Nat} {e : Env}, (wipeE own e).length = e.length
  | [], _ => rfl
  | v :: vs, e => by
    show (wipeE vs (e.set v none)).length = _
    rw [wipeE_len, List.length_set]
theorem wipeE_keep : ∀ {own : List Nat} {e : Env} {i : Nat} {r : Nat × D}, (wipeE own e)[i]? = some (some r) → e[i]? = some (some r)
  | [], _, _, _, h => h
  | v :: vs, e, i, r, h => by
    have h1 : (e.set v none)[i]? = some (some r) := wipeE_keep (own := vs) h
    by_cases hv : v = i
    · subst hv
      by_cases hl : v < e.length
      · rw [List.getElem?_set_self hl] at h1; cases h1
      · rw [List.getElem?_eq_none (by simpa using hl)] at h1; cases h1
    · rwa [List.getElem?_set_ne hv] at h1
theorem wipeE_some : ∀ {own : List Nat} {e : Env} {i : Nat} {r : Nat × D}, (wipeE own e)[i]? = some (some r) → e[i]? = some (some r) ∧ i ∉ own
  | [], _, _, _, h => ⟨h, by simp⟩
  | v :: vs, e, i, r, h => by
    obtain ⟨h1, h2⟩ := wipeE_some (own := vs) (e := e.set v none) h
    by_cases hv : v = i
    · subst hv
      by_cases hl : v < e.length
      · rw [List.getElem?_set_self hl] at h1; cases h1
      · rw [List.getElem?_eq_none (by simpa using hl)] at h1; cases h1
    · rw [List.getElem?_set_ne hv] at h1
      exact ⟨h1, by simp only [List.mem_cons, not_or]; exact ⟨fun e => hv e.symm, h2⟩⟩
def wipeL (own : List Nat) (Ls : Nat → List Addr) : Nat → List Addr := fun i => if i ∈ own then [] else Ls i
theorem wipeL_mem {own : List Nat} {i : Nat} {a : Addr} (h : a ∈ wipeL own Ls i) : i ∉ own ∧ a ∈ Ls i := by
  unfold wipeL at h
  split at h
  · cases h
  · rename_i hi; exact ⟨hi, h⟩
theorem bn_wipe {own : List Nat} {a : Addr} (h : Bn R (wipeL own Ls) F a) : Bn R Ls F a := by
  rcases h with h | ⟨i, h⟩ | h
  · exact .inl h
  · exact .inr (.inl ⟨i, (wipeL_mem h).2⟩)
  · exact .inr (.inr h)
/-- the slots of own forgotten -/
theorem Good.forget {own : List Nat} (g : Good R σ e H Ls F) : Good R (wipe σ own) (wipeE own e) H (wipeL own Ls) F ∧ Step H (Bn R Ls F) H (Bn R (wipeL own Ls) F) F := by
  have st : Step H (Bn R Ls F) H (Bn R (wipeL own Ls) F) F := ⟨fun _ _ e _ => e, fun _ _ => rfl, fun a h => .inl (bn_wipe h)⟩
  refine ⟨⟨by rw [wipeE_len, wipe_length]; exact g.len, fun i n d h => ?_, fun i => ?_, fun i j hij a ha hb => g.dis i j hij a (wipeL_mem ha).2 (wipeL_mem hb).2, fun i a ha => g.fr i a (wipeL_mem ha).2, g.fd, fun a h => g.own a (bn_wipe h), g.rnd, fun a h => ⟨(g.ra a h).1, fun i z => (g.ra a h).2 i (wipeL_mem z).2⟩⟩, st⟩
  · obtain ⟨h1, h2⟩ := wipeE_some h
    obtain ⟨v, e1, r⟩ := g.rep i n d h1
    refine ⟨v, by rw [wipe_get h2]; exact e1, ?_⟩
    have : wipeL own Ls i = Ls i := by unfold wipeL; rw [if_neg h2]
    rw [this]
    exact r.by st fun _ _ => rfl
  · unfold wipeL
    split
    · exact List.nodup_nil
    · exact g.nd i
theorem backE_len : ∀ {own : List Nat} {e₀ e : Env}, (backE own e₀ e).length = e.length
  | [], _, _ => rfl
  | v :: vs, e₀, e => by
    show (backE vs e₀ (e.set v _)).length = _
    rw [backE_len, List.length_set]
theorem backE_out : ∀ {own : List Nat} {e₀ e : Env} {i : Nat}, i ∉ own → (backE own e₀ e)[i]? = e[i]?
  | [], _, _, _, _ => rfl
  | v :: vs, e₀, e, i, h => by
    have h1 : i ≠ v := fun z => h (by simp [z])
    show (backE vs e₀ (e.set v _))[i]? = e[i]?
    rw [backE_out fun z => h (List.mem_cons_of_mem _ z), List.getElem?_set_ne (Ne.symm h1)]
theorem backE_in : ∀ {own : List Nat} {e₀ e : Env} {i : Nat} {r : Nat × D}, i ∈ own → (backE own e₀ e)[i]? = some (some r) → e₀[i]? = some (some r)
  | v :: vs, e₀, e, i, r, hi, h => by
    by_cases hv : i ∈ vs
    · exact backE_in (own := vs) hv h
    · have h1 : (backE vs e₀ (e.set v ((e₀[v]?).getD none)))[i]? = some (some r) := h
      have hiv : i = v := (List.mem_cons.mp hi).resolve_right hv
      subst hiv
      rw [backE_out hv] at h1
      by_cases hl : i < e.length
      · rw [List.getElem?_set_self hl] at h1
        cases h0 : e₀[i]? with
        | none => rw [h0] at h1; cases h1
        | some o => rw [h0] at h1; simpa using h1
      · rw [List.getElem?_eq_none (by simpa using hl)] at h1; cases h1
/-- behind a block the slots of own are as they were -/
theorem Good.back {own : List Nat} {σ' : St} {e' : Env} {H' : Hp} {Ls' : Nat → List Addr} {F' : List Addr} (g : Good R σ e H Ls F) (hi : idle own e = true) (g' : Good R σ' e' H' Ls' F') (hw : wipe σ' own = wipe σ own) (s : Step H (Bn R Ls F) H' (Bn R Ls' F') F) :
    Good R σ (backE own e e') H' (wipeL own Ls') F' ∧ Step H' (Bn R Ls' F') H' (Bn R (wipeL own Ls') F') F' := by
  obtain ⟨g2, s2⟩ := g'.forget (own := own)
  have hlen : σ'.length = σ.length := by
    have := congrArg List.length hw
    rwa [wipe_length, wipe_length] at this
  refine ⟨⟨by rw [backE_len, g'.len]; exact hlen, fun i n d h => ?_, g2.nd, g2.dis, g2.fr, g2.fd, g2.own, g2.rnd, g2.ra⟩, s2⟩
  by_cases ho : i ∈ own
  · have h0 := backE_in ho h
    obtain ⟨v, e1, r⟩ := g.rep i n d h0
    have hz : n = 0 := by
      have z := List.all_eq_true.mp hi i ho
      rw [h0] at z
      simpa using z
    subst hz
    have hL := Rep.zero d v _ r
    refine ⟨v, e1, ?_⟩
    have : wipeL own Ls' i = [] := by unfold wipeL; rw [if_pos ho]
    rw [this]
    rw [hL] at r
    exact Rep.by (L := []) s2 (fun _ z => nomatch z) (Rep.by (L := []) s (fun _ z => nomatch z) r)
  · rw [backE_out ho] at h
    obtain ⟨v, e1, r⟩ := g'.rep i n d h
    have hs : σ[i]? = σ'[i]? := by
      have this : (wipe σ' own)[i]? = (wipe σ own)[i]? := by rw [hw]
      rw [wipe_get ho, wipe_get ho] at this
      exact this.symm
    refine ⟨v, by rw [hs]; exact e1, ?_⟩
    have : wipeL own Ls' i = Ls' i := by unfold wipeL; rw [if_neg ho]
    rw [this]
    exact r.by s2 fun _ _ => rfl

/-- a list that is held apart is changed -/
theorem Good.heldL {A : Addr} {av ys : List V} (g : Good R σ e H Ls ([A] ++ F)) (hA : H A = some (.lst av)) : Good R σ e (upd H A (.lst ys)) Ls ([A] ++ F) ∧ Step H (Bn R Ls ([A] ++ F)) (upd H A (.lst ys)) (Bn R Ls ([A] ++ F)) F := by
  have nF : A ∉ F := (List.nodup_cons.mp g.fd).1
  have mem : A ∈ [A] ++ F := by simp
  have nL : ∀ i, A ∉ Ls i := fun i z => g.fr i A z mem
  have nra : ∀ b, RnA R b → b ≠ A := fun b hb z => (g.ra b hb).1 (by rw [z]; exact mem)
  have st : Step H (Bn R Ls ([A] ++ F)) (upd H A (.lst ys)) (Bn R Ls ([A] ++ F)) F :=
    ⟨fun b o q nb => by rw [upd_ne fun z => nb (by rw [z]; exact .inl mem)]; exact q, fun b hb => upd_ne fun z => nF (by rw [← z]; exact hb), fun b hb => .inl hb⟩
  refine ⟨⟨g.len, fun j m d' h => ?_, g.nd, g.dis, g.fr, g.fd, fun b hb => ?_, ?_, g.ra⟩, st⟩
  · obtain ⟨v', e2, r'⟩ := g.rep j m d' h
    exact ⟨v', e2, r'.by st fun b hb => upd_ne fun z => nL j (by rw [← z]; exact hb)⟩
  · by_cases hb' : b = A
    · rw [hb']; exact ⟨_, upd_same, fun _ => lst_no⟩
    · obtain ⟨o, q, nq⟩ := g.own b hb
      exact ⟨o, by rw [upd_ne hb']; exact q, nq⟩
  · exact g.rnd.upd nra (.inr ⟨_, hA⟩) fun _ z => nomatch z

/-! ### tests of a comprehension -/
def JTs (g : Cg) (X : Cx) (as : List Expr) (es : Es) : Prop := PTs X as (tT g.R g.W (evTs g.sub g.F es))
theorem _root_.L2.PTs.imp {X : Cx} {a : List Expr} {t u : TT} (h : PTs X a t) (f : ∀ σ H Q, u σ H Q → t σ H Q) : PTs X a u := ⟨fun pins s σ H Q I z => h.run pins s σ H Q I (f _ _ _ z)⟩
theorem jts_nil : JTs g X [] .nil := pts_nil.imp fun σ H Q z => by
  obtain ⟨e, Ls, F, G, h⟩ := z
  exact h H Ls .refl G
theorem jts_one {a : Expr} {x : E} (ha : JE g X a x) : JTs g X [a] (.cons x .nil) := PTs.imp (pts_one ha.tst) fun σ H Q z => by
  obtain ⟨e, Ls, F, G, h⟩ := z
  refine ⟨e, Ls, F, G, (all_mb.mp h).mono fun r hr => ?_⟩
  match r, hr with
  | .ok true e', hr => exact fun H' Ls' s gd => hr H' Ls' s gd
  | .ok false e', hr => exact fun H' Ls' s gd => hr H' Ls' s gd
  | .err x e', hr => exact hr
  | .no, hr => exact hr

/-! ### the block -/
def wNo : WD := fun _ _ _ _ _ => False
theorem blk_all {α β : Type} {own : List Nat} {m : M α} {f : α → M β} {P : Rs β → Prop} (h : (mb (blkE own m) f e).All P) (hn : ¬ P .no) : idle own e = true ∧ (m e).All fun r => match r with
    | .ok a e' => (f a (backE own e e')).All P
    | _ => False := by
  have h0 := all_mb.mp h
  unfold blkE at h0
  split at h0
  · rename_i hi
    refine ⟨hi, (Tr.all_bind.mp h0).mono fun r hr => ?_⟩
    match r, hr with
    | .ok a e', hr => exact hr
    | .err x e', hr => exact hn hr
    | .no, hr => exact hn hr
  · exact absurd h0 hn
def PLc (R : Rn) (W : WD) (σ : St) (H : Hp) (B : Addr → Prop) (F : List Addr) (Q : VK) (own : List Nat) (e0 : Env) : Rs (List D) → Prop
  | .ok a e2 => (pu (1, D.lst a) (backE own e0 e2)).All (PostV R W σ H B F Q)
  | _ => False
/-- what is wanted of a comprehension's loop, from turn i on -/
structure LcAt (R : Rn) (tg own : List Nat) (test : M Bool) (elt : M (Nat × D)) (P : Rs (List D) → Prop) (H0 : Hp) (B0 : Addr → Prop) (F : List Addr) (A : Addr) (T : Hp → (Addr → Prop) → Prop) (xs : List D) (σ : St) (i : Nat) (H : Hp) : Prop where
  ex : ∃ e Ls acc av σ', wipe σ' own = wipe σ own ∧ Good R σ' e H Ls ([A] ++ F) ∧ Step H0 B0 H (Bn R Ls ([A] ++ F)) F ∧ T H (Bn R Ls ([A] ++ F)) ∧ H A = some (.lst av) ∧ Reps R H (Bn R Ls ([A] ++ F)) 0 acc av [] ∧ (compE tg own test elt (xs.drop i) acc e).All P
theorem lc_run {it : It} {es : Es} {tg own : List Nat} {test : M Bool} {elt : M (Nat × D)} {Q : VK} (hto : ∀ i ∈ tg, i ∈ own)
    (h : tV R W (mb (evPs sub g.F es) fun ps => mb (vlPs ps) fun l => mb (op (isem it (l.map (·.2)))) fun xs => mb (blkE own (compE tg own test elt xs [])) fun r => pu (1, .lst r)) σ H Q) :
    tLc (tI R W (itM sub g.F it es)) (tG R tg) (tT R wNo test) (tV R wNo elt) own σ H Q := by
  have eq : (mb (evPs sub g.F es) fun ps => mb (vlPs ps) fun l => mb (op (isem it (l.map (·.2)))) fun xs => mb (blkE own (compE tg own test elt xs [])) fun r => pu (1, D.lst r)) = mb (itM sub g.F it es) fun xs => mb (blkE own (compE tg own test elt xs [])) fun r => pu (1, D.lst r) := by
    unfold itM
    simp only [mb_assoc]
  rw [eq] at h
  obtain ⟨e, Ls, F, G, h⟩ := h
  refine ⟨e, Ls, F, G, (all_mb.mp h).mono fun r hr => ?_⟩
  match r, hr with
  | .err x e', hr => exact hr
  | .no, hr => exact hr
  | .ok xs e', hr =>
    intro J T H1 Ls1 s1 g1 ok t1 A hA
    obtain ⟨hid, hr⟩ := blk_all hr no_V
    have hr : (compE tg own test elt (xs.drop 0) [] e').All (PLc R W σ H (Bn R Ls F) F Q own e') := hr.mono fun r z => match r, z with
      | .ok a e2, z => z
      | .err _ _, z => z
      | .no, z => z
    obtain ⟨gA, sA⟩ := g1.newL (xs := []) hA
    refine ⟨fun i m H' => i ≤ xs.length ∧ m = xs.length - i ∧ LcAt R tg own test elt (PLc R W σ H (Bn R Ls F) F Q own e') H1 (Bn R Ls1 F) F A T xs σ i H', ⟨xs.length, by omega, by omega, ⟨e', Ls1, [], [], σ, rfl, gA, sA, ok.stay _ _ _ _ _ t1 sA, upd_same, .nil, hr⟩⟩, ?_⟩
    rintro i m H' ⟨hi, rfl, ⟨e2, Ls2, acc, av, σ', hw, g2, s2, t2, hav, hacc, h2⟩⟩
    by_cases hlt : i < xs.length
    · refine .inr ⟨ok.go i H' _ _ t2 (List.getElem?_eq_getElem hlt), fun H'' => i + 1 ≤ xs.length ∧ LcAt R tg own test elt (PLc R W σ H (Bn R Ls F) F Q own e') H1 (Bn R Ls1 F) F A T xs σ (i + 1) H'', fun H'' ⟨q1, q2⟩ => ⟨xs.length - (i + 1), by omega, q1, rfl, q2⟩, fun v H3 y => ?_⟩
      obtain ⟨hH, rp⟩ := ok.yld i H' _ _ v H3 t2 (List.getElem?_eq_getElem hlt) g2.has y
      have key : Good R σ' e2 H3 Ls2 ([A] ++ F) ∧ Step H' (Bn R Ls2 ([A] ++ F)) H3 (Bn R Ls2 ([A] ++ F)) ([A] ++ F) := by
        rcases hH with rfl | ⟨p, o, hp, rfl⟩
        · exact ⟨g2, .refl⟩
        · exact g2.newT hp
      obtain ⟨g3, s3⟩ := key
      obtain ⟨g4, s4⟩ := g3.forget (own := own)
      rw [hw] at g4
      have s34 := s3.trans s4 fun a z => z
      have t4 := ok.stay _ _ _ _ _ t2 s34
      have hav4 : H3 A = some (.lst av) := (s34.frm A (by simp)).trans hav
      have hacc4 := Reps.by (L := []) s34 (fun _ z => nomatch z) hacc
      have s04 : Step H1 (Bn R Ls1 F) H3 (Bn R (wipeL own Ls2) ([A] ++ F)) F := s2.trans s34 fun a z => List.mem_append_right _ z
      rw [List.drop_eq_getElem_cons hlt] at h2
      have h2 : (mb (bindT tg xs[i]) (fun _ => mb test fun t => if t = true then mb elt fun y => tst (decide (acc.length < sizeLine)) (compE tg own test elt (xs.drop (i + 1)) (acc ++ [y.2])) else compE tg own test elt (xs.drop (i + 1)) acc) (wipeE own e2)).All _ := h2
      refine ⟨xs[i], _, _, [A] ++ F, g4, Rep.by (L := []) s4 (fun _ z => nomatch z) rp, (all_mb.mp h2).mono fun r hr => ?_⟩
      match r, hr with
      | .err x e', hr => trivial
      | .no, hr => exact hr
      | .ok _ e3, hr =>
        intro σ5 Ls5 ho s5 g5
        have hw5 : wipe σ5 own = wipe σ own := (ho own hto).trans wipe_wipe
        have s05 := s04.trans s5 fun a z => List.mem_append_right _ z
        have t5 := ok.stay _ _ _ _ _ t4 s5
        have hacc5 := Reps.by (L := []) s5 (fun _ z => nomatch z) hacc4
        refine ⟨hw5, e3, Ls5, [A] ++ F, g5, (all_mb.mp hr).mono fun r hr => ?_⟩
        match r, hr with
        | .err x e', hr => exact hr.elim
        | .no, hr => exact hr
        | .ok b e4, hr =>
          intro H6 Ls6 s6 g6
          have t6 := ok.stay _ _ _ _ _ t5 s6
          have hav6 : H6 A = some (.lst av) := (s6.frm A (by simp)).trans hav4
          have hacc6 := Reps.by (L := []) s6 (fun _ z => nomatch z) hacc5
          have s06 := s05.trans s6 fun a z => List.mem_append_right _ z
          cases b with
          | false => exact ⟨hlt, ⟨e4, Ls6, acc, av, σ5, hw5, g6, s06, t6, hav6, hacc6, hr⟩⟩
          | true =>
            refine ⟨e4, Ls6, [A] ++ F, g6, (all_mb.mp hr).mono fun r hr => ?_⟩
            match r, hr with
            | .err x e', hr => exact hr.elim
            | .no, hr => exact hr
            | .ok y e5, hr =>
              intro w H7 Ls7 Lt7 s7 g7 r7
              obtain ⟨hz, h8⟩ := tst_all hr (fun z => z)
              obtain ⟨g8, s8', r8⟩ := g7.froze s7 r7
              have s8 : Step H6 (Bn R Ls6 ([A] ++ F)) H7 (Bn R Ls7 ([A] ++ F)) ([A] ++ F) := s8'
              have hav8 : H7 A = some (.lst av) := (s8.frm A (by simp)).trans hav6
              have hacc8 := Reps.by (L := []) s8 (fun _ z => nomatch z) hacc6
              have t8 := ok.stay _ _ _ _ _ t6 s8
              have s08 := s06.trans s8 fun a z => List.mem_append_right _ z
              have hlen : av.length < sizeLine := by rw [hacc8.length]; exact of_decide_eq_true hz
              obtain ⟨g9, s9⟩ := g8.heldL (ys := av ++ [w]) hav8
              exact ⟨av, hav8, hlen, hlt, ⟨e5, Ls7, acc ++ [y.2], av ++ [w], σ5, hw5, g9, s08.trans s9 fun a z => z, ok.stay _ _ _ _ _ t8 s9, upd_same, Reps.by (L := []) s9 (fun _ z => nomatch z) (hacc8.app (.cons r8 .nil)), h8⟩⟩
    · have hn : xs.drop i = [] := List.drop_eq_nil_of_le (by omega)
      rw [hn] at h2
      have h2 : PostV R W σ H (Bn R Ls F) F Q (.ok (1, D.lst acc) (backE own e' e2)) := h2
      obtain ⟨gb, sb⟩ := g1.back hid g2 hw s2
      refine .inl ⟨ok.stp i H' _ t2 (by omega), h2 (.ref A) H' _ [A] ((s1.trans s2 fun a z => z).trans (F1 := F) ⟨sb.ext, fun a z => rfl, sb.bn⟩ fun a z => z) gb ?_⟩
      simp only [Rep]
      exact ⟨A, av, [], rfl, hav, rfl, Reps.by (L := []) sb (fun _ z => nomatch z) hacc⟩

/-! ### the rules -/
/-- the context of a block -/
theorem Cok.blk (C : Cok X) (s : Shared) (H : Hp) (scope : Scope) (cenv : PySem.Env) (fp : List Addr) : Cok (X.blk s H scope cenv fp) := ⟨C.calm, C.un, C.gd, C.nd, PassesOwn.never⟩
/-- .. inside of it no error leaves -/
abbrev Cg.inn (g : Cg) : Cg := { g with W := wNo }
section
variable {elt tg iter : Expr} {ifs : List Expr} {scope : Scope} {own : List (Str × Nat)} {pos : Pos} {o : It} {es cs : Es} {x : E} {is : List Nat}
theorem lc_val (C : Cok X) (hi : JI g X tg iter o es)
    (hg : ∀ (s : Shared) (H : Hp) (A : Addr) (cl : List (Str × Addr)) (fp : List Addr), Cok (X.blk s H scope (compEnvC scope cl A X.env) fp) → JG g.inn (X.blk s H scope (compEnvC scope cl A X.env) fp) tg is)
    (ht : ∀ (s : Shared) (H : Hp) (A : Addr) (cl : List (Str × Addr)) (fp : List Addr), Cok (X.blk s H scope (compEnvC scope cl A X.env) fp) → JTs g.inn (X.blk s H scope (compEnvC scope cl A X.env) fp) ifs cs)
    (he : ∀ (s : Shared) (H : Hp) (A : Addr) (cl : List (Str × Addr)) (fp : List Addr), Cok (X.blk s H scope (compEnvC scope cl A X.env) fp) → JE g.inn (X.blk s H scope (compEnvC scope cl A X.env) fp) elt x)
    (ok : BlkOk X.N X.env.scope scope own := by exact blkOk_by (by rfl)) (hto : ∀ i ∈ is, i ∈ own.map (·.2) := by decide) (hs : ∀ x, foldedSetIterable iter X.env x = pure x := by intro _; rfl) : JE g X (.ListComp elt [⟨tg, iter, ifs, 0⟩] scope pos) (.lc own is o es cs x) :=
  .of ((pe_lc C.calm C.nd hi ok (fun s H A cl fp => hg s H A cl fp (C.blk ..)) (fun s H A cl fp => ht s H A cl fp (C.blk ..)) (fun s H A cl fp => (he s H A cl fp (C.blk ..)).val) hs).imp fun σ H Q z => lc_run hto z) (fun _ => rfl) rfl fun _ => rfl
theorem js_asgLc {y : Str} {i : Nat} {p spos : Pos} (C : Cok X)
    (hi : JI g X tg iter o es)
    (hg : ∀ (s : Shared) (H : Hp) (A : Addr) (cl : List (Str × Addr)) (fp : List Addr), Cok (X.blk s H scope (compEnvC scope cl A X.env) fp) → JG g.inn (X.blk s H scope (compEnvC scope cl A X.env) fp) tg is)
    (ht : ∀ (s : Shared) (H : Hp) (A : Addr) (cl : List (Str × Addr)) (fp : List Addr), Cok (X.blk s H scope (compEnvC scope cl A X.env) fp) → JTs g.inn (X.blk s H scope (compEnvC scope cl A X.env) fp) ifs cs)
    (he : ∀ (s : Shared) (H : Hp) (A : Addr) (cl : List (Str × Addr)) (fp : List Addr), Cok (X.blk s H scope (compEnvC scope cl A X.env) fp) → JE g.inn (X.blk s H scope (compEnvC scope cl A X.env) fp) elt x)
    (hy : X.N[i]? = some y := by rfl) (hyl : X.env.scope.names.lookup y = some .local := by rfl) (hsw : swapsWith (.ListComp elt [⟨tg, iter, ifs, 0⟩] scope pos) (some (.Name y p)) spos.line X.env = pure true := by exact sw_true rfl rfl rfl rfl)
    (ok : BlkOk X.N X.env.scope scope own := by exact blkOk_by (by rfl)) (hto : ∀ i ∈ is, i ∈ own.map (·.2) := by decide) (hs : ∀ x, foldedSetIterable iter X.env x = pure x := by intro _; rfl) : JS g X (.Assign [.Name y p] (.ListComp elt [⟨tg, iter, ifs, 0⟩] scope pos) spos) (.asg i (.lc own is o es cs x)) :=
  ⟨(ps_setLc C.calm C.nd hy hyl hsw hi ok (fun s H A cl fp => hg s H A cl fp (C.blk ..)) (fun s H A cl fp => ht s H A cl fp (C.blk ..)) (fun s H A cl fp => (he s H A cl fp (C.blk ..)).val) hs).imp fun D σ H z => by
    obtain ⟨e, Ls, F, G, h⟩ := z
    refine lc_run (W := g.W) (sub := g.sub) (own := own.map (·.2)) hto ⟨e, Ls, F, G, (all_mb.mp h).mono fun r hr => ?_⟩
    match r, hr with
    | .err x e', hr => exact err_S hr
    | .no, hr => exact hr
    | .ok r e', hr =>
      intro v H' Ls' Lt s gd rp
      obtain ⟨hl, h2⟩ := setE_all (P := fun r => (mk (fun _ => pu .nx) r).All (PostS _ _ _ _ _ D)) (all_mb.mp hr) no_S
      obtain ⟨g', s'⟩ := gd.put rp hl
      exact h2 _ H' _ (s.trans s' fun a z => z) g'⟩
end
end
end G

set_option maxHeartbeats 1000000
/-! G.Snd11: calls; a def. -/
namespace G
open PySem L2 PyProof.Rows
section
variable {g : Cg} {X : Cx} {R : Rn} {W : WD} {σ : St} {e : Env} {H : Hp} {Ls : Nat → List Addr} {F : List Addr} {sub : Nat → List Nat}
def nL : Nat → List Addr := fun _ => []
/-- all that a body owns -/
def ownL (n : Nat) (Ls : Nat → List Addr) : List Addr := (List.range n).flatMap Ls
def trimL (n : Nat) (Ls : Nat → List Addr) : Nat → List Addr := fun i => if i < n then Ls i else []
theorem trimL_mem {n i : Nat} {a : Addr} (h : a ∈ trimL n Ls i) : i < n ∧ a ∈ Ls i := by
  unfold trimL at h
  split at h
  · rename_i hi; exact ⟨hi, h⟩
  · cases h
theorem bn_trim {n : Nat} {a : Addr} (h : Bn R (trimL n Ls) F a) : Bn R Ls F a := by
  rcases h with h | ⟨i, h⟩ | h
  · exact .inl h
  · exact .inr (.inl ⟨i, (trimL_mem h).2⟩)
  · exact .inr (.inr h)
theorem Good.trim (g : Good R σ e H Ls F) : Good R σ e H (trimL σ.length Ls) F ∧ Step H (Bn R Ls F) H (Bn R (trimL σ.length Ls) F) F := by
  have st : Step H (Bn R Ls F) H (Bn R (trimL σ.length Ls) F) F := ⟨fun _ _ e _ => e, fun _ _ => rfl, fun a h => .inl (bn_trim h)⟩
  refine ⟨⟨g.len, fun i n d h => ?_, fun i => ?_, fun i j hij a ha hb => g.dis i j hij a (trimL_mem ha).2 (trimL_mem hb).2, fun i a ha => g.fr i a (trimL_mem ha).2, g.fd, fun a h => g.own a (bn_trim h), g.rnd, fun a h => ⟨(g.ra a h).1, fun i z => (g.ra a h).2 i (trimL_mem z).2⟩⟩, st⟩
  · obtain ⟨v, e1, r⟩ := g.rep i n d h
    refine ⟨v, e1, ?_⟩
    have : trimL σ.length Ls i = Ls i := by unfold trimL; rw [if_pos (List.getElem?_eq_some_iff.mp e1).1]
    rw [this]
    exact r.by st fun _ _ => rfl
  · unfold trimL
    split
    · exact g.nd i
    · exact List.nodup_nil
theorem ownL_mem {n : Nat} {a : Addr} : a ∈ ownL n (trimL n Ls) ↔ ∃ i, a ∈ trimL n Ls i := by
  unfold ownL
  rw [List.mem_flatMap]
  constructor
  · rintro ⟨i, _, h⟩; exact ⟨i, h⟩
  · rintro ⟨i, h⟩; exact ⟨i, List.mem_range.mpr (trimL_mem h).1, h⟩
theorem nodup_own {n : Nat} (nd : ∀ i, (Ls i).Nodup) (dis : ∀ i j, i ≠ j → ∀ a ∈ Ls i, a ∉ Ls j) : ∀ {l : List Nat}, l.Nodup → (l.flatMap Ls).Nodup
  | [], _ => by simp
  | i :: l, h => by
    rw [List.flatMap_cons]
    obtain ⟨h1, h2⟩ := List.nodup_cons.mp h
    refine List.nodup_append.mpr ⟨nd i, nodup_own (n := n) nd dis h2, fun a ha b hb e => ?_⟩
    obtain ⟨j, hj, hb⟩ := List.mem_flatMap.mp hb
    exact dis i j (fun z => h1 (by rw [z]; exact hj)) a ha (by rw [e]; exact hb)
/-- a body's state, seen from a callee -/
theorem Good.seen {n : Nat} (g : Good R σ e H (trimL n Ls) F) : Good R [] [] H nL (ownL n (trimL n Ls) ++ F) ∧ ∀ a, Bn R nL (ownL n (trimL n Ls) ++ F) a ↔ Bn R (trimL n Ls) F a := by
  have hb : ∀ a, Bn R nL (ownL n (trimL n Ls) ++ F) a ↔ Bn R (trimL n Ls) F a := fun a => by
    unfold Bn
    rw [List.mem_append, ownL_mem]
    constructor
    · rintro ((h | h) | ⟨i, h⟩ | h)
      · exact .inr (.inl h)
      · exact .inl h
      · cases h
      · exact .inr (.inr h)
    · rintro (h | h | h)
      · exact .inl (.inr h)
      · exact .inl (.inl h)
      · exact .inr (.inr h)
  refine ⟨⟨rfl, (fun i n d h => by simp at h), fun i => List.nodup_nil, (fun _ _ _ a ha => nomatch ha), (fun i a ha => nomatch ha), ?_, fun a h => g.own a ((hb a).mp h), g.rnd, fun a h => ⟨fun z => ?_, fun i z => nomatch z⟩⟩, hb⟩
  · refine List.nodup_append.mpr ⟨nodup_own (n := n) g.nd g.dis List.nodup_range, g.fd, fun a ha b hb e => ?_⟩
    obtain ⟨i, hi⟩ := ownL_mem.mp ha
    exact g.fr i a hi (by rw [e]; exact hb)
  · rcases List.mem_append.mp z with z | z
    · obtain ⟨i, hi⟩ := ownL_mem.mp z
      exact (g.ra a h).2 i hi
    · exact (g.ra a h).1 z
/-- the slots forgotten -/
theorem Good.close (g : Good R σ e H Ls F) : Good R [] [] H nL F ∧ Step H (Bn R Ls F) H (Bn R nL F) F := by
  have hb : ∀ a, Bn R nL F a → Bn R Ls F a := fun a h => by
    rcases h with h | ⟨i, h⟩ | h
    · exact .inl h
    · cases h
    · exact .inr (.inr h)
  exact ⟨⟨rfl, (fun i n d h => by simp at h), fun i => List.nodup_nil, (fun _ _ _ a ha => nomatch ha), (fun i a ha => nomatch ha), g.fd, fun a h => g.own a (hb a h), g.rnd, fun a h => ⟨(g.ra a h).1, fun i z => nomatch z⟩⟩, ⟨fun _ _ e _ => e, fun _ _ => rfl, fun a h => .inl (hb a h)⟩⟩

/-! ### what a def promises -/
def PostF (R : Rn) (H : Hp) (B : Addr → Prop) (F : List Addr) (Q : VK) (E : XK) : FO → Prop
  | .ok fr d => ∀ v H' Lt, Step H B H' (Bn R nL (Lt ++ F)) F → Good R [] [] H' nL (Lt ++ F) → Rep R H' (Bn R nL (Lt ++ F)) (if fr = true then top d else 0) d v Lt → Q v H'
  | .err x => ∀ H', Step H B H' (Bn R nL F) F → Good R [] [] H' nL F → ∀ cls dd, XRep R H' (Bn R nL F) x cls dd → E cls dd H'
  | .no => False
def fspR (R : Rn) (n : Nat) (f : Fn) : Sp := fun vs H Q E => ∃ ds F, Good R [] [] H nL F ∧ Reps R H (Bn R nL F) 0 ds vs [] ∧ ds.length = n ∧ (f ds).All (PostF R H (Bn R nL F) F Q E)
def fsp (ok : Rn → Prop) (n : Nat) (f : Fn) : Sp := fun vs H Q E => ∃ R, ok R ∧ fspR R n f vs H Q E
structure FnG (P : Program) (w : World) (K : PySem.W.Frag) (mg : Str → Option Value) (base : Heap) (k : Nat) (f : Addr) (fd : FuncData) (ps : List Str) (sp : Sp) : Prop where
  len : ∀ vs H Q E, sp vs H Q E → vs.length = ps.length
  run : ∀ (A : Around) (outer : List PySem.Env) (s : Shared) (H : Hp) (args : Args) (us : List Value) (vs : List V) (Q : VK) (E : XK), Room k A → A.guards = some [] → Env0 P w K mg base A outer s H → BindsTo s fd args (ps.zip us) → Vals vs us → sp vs H Q E →
    codeAny (model P w) A (.call (.ref f) args) (CR (L2.CX P w) outer P w H s Q E) s
/-- what is wanted of errors, as the library has it -/
def wX (W : WD) : WX := fun cls d σ H => ∃ x, W x cls d σ H
theorem takes_wNo {X : Cx} : Takes X (wX wNo) := fun _ _ x => by
  obtain ⟨_, _, _, _, _, _, _, _, _, _, _, _, _, _, _, _, _, z⟩ := x
  exact z.elim
/-- a callee's end is ours -/
theorem callF_run {j : Nat} {es : Es} {ord : List Nat} {n : Nat} {ok : Rn → Prop} {Q : VK} (hR : ok g.R) (hord : ord = List.range n) (h : tV g.R g.W (ev g.sub g.F (.f j es [] ord)).val σ H Q) :
    tCallS (fsp ok n (g.F j)) (WE (wX g.W)) (tA g.R g.W (evPs g.sub g.F es)) σ H Q := by
  subst hord
  refine vl_run h fun l e' vs H' H0 B0 Ls' F h st gd rp => ?_
  obtain ⟨hl, h⟩ := tst_all h no_V
  have hl : l.length = n := by simpa using hl
  have hp : permD l (List.range n) = l.map (·.2) := by
    unfold permD
    apply List.ext_getElem
    · simp [hl]
    · intro i h1 h2
      simp only [List.getElem_map, List.getElem_range]
      have : i < l.length := by simpa using h2
      rw [List.getD_eq_getElem?_getD, List.getElem?_eq_getElem this]
      rfl
  rw [hp] at h
  obtain ⟨gt, sT⟩ := gd.trim
  have rp := Reps.by (L := []) sT (fun _ z => nomatch z) rp
  have st := st.trans sT fun a z => z
  obtain ⟨gs, hb⟩ := gt.seen
  generalize trimL σ.length Ls' = L1 at gt sT rp st gs hb
  generalize hA : ownL σ.length L1 ++ F = A at gs hb
  have subF : ∀ a ∈ F, a ∈ A := fun a z => by rw [← hA]; exact List.mem_append_right _ z
  have subL : ∀ i, ∀ a ∈ L1 i, a ∈ A := fun i a z => by
    have := (hb a).mpr (.inr (.inl ⟨i, z⟩))
    rcases this with q | ⟨i, q⟩ | q
    · exact q
    · cases q
    · exact absurd z ((gt.ra a q).2 i)
  refine ⟨g.R, hR, l.map (·.2), A, gs, Reps.by (L := []) (F := []) (Step.of_iff hb) (fun _ z => nomatch z) rp, by simpa using hl, ?_⟩
  have h2 : (g.F j (l.map (·.2))).All fun r => (foE r e').All (PostV g.R g.W σ H0 B0 F Q) := by
    have h3 : ((g.F j (l.map (·.2))).bind fun a => Tr.ret (Rs.ok a e')).All (fun r => (mk foE r).All (PostV g.R g.W σ H0 B0 F Q)) := all_mb.mp h
    exact (Tr.all_bind (f := fun a => Tr.ret (Rs.ok a e'))).mp h3
  refine h2.mono fun r hr => ?_
  match r, hr with
  | .no, hr => exact hr
  | .ok fr d, hr =>
    intro v H2 Lt s2 g2 r2
    have hb2 : ∀ a, Bn g.R L1 (Lt ++ F) a ↔ Bn g.R nL (Lt ++ A) a := fun a => by
      constructor
      · rintro (z | ⟨i, z⟩ | z)
        · rcases List.mem_append.mp z with z | z
          · exact .inl (List.mem_append_left _ z)
          · exact .inl (List.mem_append_right _ (subF a z))
        · exact .inl (List.mem_append_right _ (subL i a z))
        · exact .inr (.inr z)
      · rintro (z | ⟨i, z⟩ | z)
        · rcases List.mem_append.mp z with z | z
          · exact .inl (List.mem_append_left _ z)
          · rcases (hb a).mp (.inl z) with y | y
            · exact .inl (List.mem_append_right _ y)
            · exact .inr y
        · cases z
        · exact .inr (.inr z)
    have s3 : Step H' (Bn g.R L1 F) H2 (Bn g.R L1 (Lt ++ F)) F := ⟨fun a o q nb => s2.ext a o q fun z => nb ((hb a).mp z), fun a z => s2.frm a (subF a z), fun a z => (s2.bn a ((hb2 a).mp z)).imp (fun y => (hb a).mp y) id⟩
    have nd2 := List.nodup_append.mp g2.fd
    have g3 : Good g.R σ e' H2 L1 (Lt ++ F) := gt.step s3 (fun i a z => s2.frm a (subL i a z)) g2.rnd nd2.1 (fun a z => ⟨?_, g2.own a (.inl (List.mem_append_left _ z))⟩) fun a z => g2.own a (.inr (.inr z))
    · exact hr v H2 L1 Lt (st.trans s3 fun a z => z) g3 (Rep.by (F := []) (Step.of_iff hb2) (fun _ _ => rfl) r2)
    · rcases s2.bn a (.inl (List.mem_append_left _ z)) with y | y
      · exfalso
        rcases y with y | ⟨i, y⟩ | y
        · exact nd2.2.2 a z a y rfl
        · cases y
        · exact (g2.ra a y).1 (List.mem_append_left _ z)
      · exact y
  | .err x, hr =>
    intro H2 s2 g2 cls dd x2
    have s3 : Step H' (Bn g.R L1 F) H2 (Bn g.R L1 F) F := ⟨fun a o q nb => s2.ext a o q fun z => nb ((hb a).mp z), fun a z => s2.frm a (subF a z), fun a z => .inl z⟩
    have g3 : Good g.R σ e' H2 L1 ([] ++ F) := gt.step (Lt := []) s3 (fun i a z => s2.frm a (subL i a z)) g2.rnd List.nodup_nil (fun a z => nomatch z) fun a z => g2.own a (.inr (.inr z))
    exact ⟨x, hr H2 L1 (st.trans s3 fun a z => z) g3 cls dd (x2.by (F := []) (Step.of_iff fun a => (hb a).symm))⟩
section
variable {k n j : Nat} {f : Addr} {fd : FuncData} {ps : List Str} {sp : Sp} {x : Str} {p pos : Pos} {a : Expr} {as : List Expr} {es : Es} {ord : List Nat} {ok : Rn → Prop}
theorem run_g {pins : List (Addr × Obj)} {s : Shared} {Q : VK} {E : XK} {us : List Value} {vs : List V} (C : Cok X) (FG : FnG X.prog X.w X.K X.mg X.base k f fd ps sp) (hr : Room k X.A) (hb : L2.Binds X.K fd ps []) (hx : PassesAt (L2.CX X.prog X.w) X σ E) (I : Inv X pins σ H s) (r : Vals vs us) (h : sp vs H Q E) :
    wpAny (model X.prog X.w) X.A (call (.ref f) us) (EP X pins σ Q) X.xe s := by
  have hl : us.length = ps.length := r.length.symm.trans (FG.len _ _ _ _ h)
  have b := hb s us I.kIn (by rw [List.append_nil]; exact hl)
  rw [List.append_nil] at b
  refine wpAny_call (codeAny_mono (FG.run X.A X.stack s H ⟨us, []⟩ us vs Q E hr C.gd I.env0 b r h) fun r s' hq => ?_)
  match r, hq with
  | .error e, hq => exact hx pins H s e s' I hq
  | .ok (.ret u), hq => exact I.after hq
  | .ok .next, hq => exact hq.elim
  | .ok .brk, hq => exact hq.elim
  | .ok .cont, hq => exact hq.elim
theorem je_call {fj : Fn} (C : Cok X) (FG : FnG X.prog X.w X.K X.mg X.base k f fd ps (fsp ok n fj)) (hF : g.F j = fj) (hR : ok g.R) (tk : Takes X (wX g.W)) (hr : Room k X.A) (hg : Gl X x) (hm : X.mg x = some (.ref f)) (hk : PySem.W.keepIn X.K (.ref f) = true) (hb : L2.Binds X.K fd ps []) (ha : JA g X (a :: as) es)
    (hord : ord = List.range n := by decide) (hdb : (x == ("__debug__" : Str)) = false := by decide) (z : Pl1 X pos a as := by exact {}) : JE g X (.Call (.Name x p) (a :: as) [] pos) (.f j es [] ord) := by
  subst hF
  have hv : PE X (.Call (.Name x p) (a :: as) [] pos) (tCallS (fsp ok n (g.F j)) (WE (wX g.W)) (tA g.R g.W (evPs g.sub g.F es))) := by
    refine ⟨fun pins s σ H Q I h => wpAny_Call_Name_kw (ld_glob I hg hm ?_ hdb)⟩
    exact PySem.W.callWith_K (h₀ := X.base) I.ok.mod.kin hk (thn (ha.run pos pins s σ H _ I h) fun us s1 ⟨vs, H1, I1, r, q⟩ => ⟨I1.kIn, run_g C FG hr hb (passAt tk σ) I1 r q⟩) z.he z.hpl
  exact .of (hv.imp fun σ H Q z => callF_run hR hord z) (fun _ => rfl) rfl fun _ => rfl
end

/-! ### a def by its body -/
theorem good_start {ds : List D} {vs : List V} {n : Nat} (g : Good R [] [] H nL F) (r : Reps R H (Bn R nL F) 0 ds vs []) (hn : ds.length ≤ n) : Good R (vs.map some ++ List.replicate (n - vs.length) none) (ds.map (fun d => some (0, d)) ++ List.replicate (n - ds.length) none) H nL F := by
  have hl := r.length
  refine ⟨by simp [hl], fun i m d h => ?_, g.nd, g.dis, g.fr, g.fd, g.own, g.rnd, g.ra⟩
  by_cases hi : i < ds.length
  · rw [List.getElem?_append_left (by simpa using hi), List.getElem?_map, Option.map_eq_some_iff] at h
    obtain ⟨d', h1, h2⟩ := h
    cases h2
    obtain ⟨v, hv, rv⟩ := r.get h1
    refine ⟨v, ?_, rv⟩
    rw [List.getElem?_append_left (by rw [List.length_map, hl]; exact hi), List.getElem?_map, hv]
    rfl
  · rw [List.getElem?_append_right (by simpa using hi), List.getElem?_replicate] at h
    split at h <;> cases h
theorem fn_run {n : Nat} {body : Ss} {Fs : Nat → Fn} {ds : List D} {vs : List V} {Q : VK} {E : XK} (g : Good R [] [] H nL F) (r : Reps R H (Bn R nL F) 0 ds vs []) (hn : ds.length ≤ n) (h : (fnOf sub Fs n body ds).All (PostF R H (Bn R nL F) F Q E)) :
    tS R (fun _ cls dd _ H => E cls dd H) (evSs sub Fs body) { nx := fun _ H' => Q .non H', rt := Q } (vs.map some ++ List.replicate (n - vs.length) none) H := by
  refine ⟨_, nL, F, good_start g r hn, (Tr.all_bind.mp h).mono fun r hr => ?_⟩
  match r, hr with
  | .ok .nx e, hr =>
    intro σ' H' Ls' s gd
    obtain ⟨gc, sc⟩ := gd.close
    exact hr .non H' [] (s.trans sc fun a z => z) gc (by simp [top, Rep])
  | .ok .bk e, hr => exact hr.elim
  | .ok .ct e, hr => exact hr.elim
  | .ok (.rt m d) e, hr =>
    intro v σ' H' Ls' Lt s gd rp
    by_cases hm : (m == 1 && top d == 1) = true
    · have hm2 : m = 1 ∧ top d = 1 := by simpa using hm
      obtain ⟨gc, sc⟩ := gd.close
      have hr : PostF R H (Bn R nL F) F Q E (.ok (m == 1 && top d == 1) d) := hr
      rw [hm] at hr
      refine hr v H' Lt (s.trans (F1 := F) ⟨sc.ext, fun a z => rfl, sc.bn⟩ fun a z => z) gc ?_
      rw [if_pos rfl, hm2.2, ← hm2.1]
      exact rp.by sc fun _ _ => rfl
    · obtain ⟨gf, sf, rf⟩ := gd.froze s rp
      obtain ⟨gc, sc⟩ := gf.close
      have hr : PostF R H (Bn R nL F) F Q E (.ok (m == 1 && top d == 1) d) := hr
      rw [Bool.not_eq_true] at hm
      rw [hm] at hr
      exact hr v H' [] (sf.trans sc fun a z => z) gc (Rep.by (L := []) sc (fun _ z => nomatch z) rf)
  | .err x e, hr =>
    intro σ' H' Ls' s gd cls dd xr
    obtain ⟨gc, sc⟩ := gd.close
    exact hr H' (s.trans sc fun a z => z) gc cls dd (xr.by sc)
  | .no, hr => exact hr
/-- what a def's body is read with -/
abbrev cgOf (R : Rn) (E : XK) (sub : Nat → List Nat) (Fs : Nat → Fn) : Cg := ⟨R, fun _ cls dd _ H => E cls dd H, sub, Fs⟩
theorem fnG_of {P : Program} {w : World} {K : PySem.W.Frag} {mg : Str → Option Value} {base : Heap} {x qual : Str} {st : Stmt} {f : Addr} {fd : FuncData} {N ps : List Str} {k n : Nat} {ok : Rn → Prop} {Fs : Nat → Fn} {body : Ss} (Fu : Fun K x qual st f fd) (S : FnScope N ps (defScope st)) (hp : ps.length = n)
    (hbody : ∀ (cdv : Value) (A : Around) (outer : List PySem.Env) (s : Shared) (H : Hp) (E : XK) (R : Rn), ok R → Cok (cxOf (L2.CX P w) P w K mg base N qual (defScope st) f cdv A outer s H E) → Room k (A.deeper (envOfC qual (defScope st) s.heap.objs.size f cdv)) →
      Takes (cxOf (L2.CX P w) P w K mg base N qual (defScope st) f cdv A outer s H E) (wX (cgOf R E sub Fs).W) → JSs (cgOf R E sub Fs) (cxOf (L2.CX P w) P w K mg base N qual (defScope st) f cdv A outer s H E) (defBody st) body) :
    FnG P w K mg base (k + 1) f fd ps (fsp ok n (fnOf sub Fs N.length body)) := by
  refine ⟨fun vs H Q E h => ?_, fun A outer s H args us vs Q E hr hgd e0 hb rv h => ?_⟩
  · obtain ⟨R, hR, ds, F, g, r, hl, _⟩ := h
    rw [r.length, hl, hp]
  · obtain ⟨R, hR, ds, F, g, r, hl, h⟩ := h
    obtain ⟨oc, od, kV, doc, pm, an, cdv, ct, osl, rfl, lk, hcd⟩ := Fu.ex
    have hvl : vs.length = ps.length := by rw [r.length, hl, hp]
    have hN : ds.length ≤ N.length := by
      have := congrArg List.length S.pre
      rw [List.length_take] at this
      omega
    refine LamX.run_ofS lk hcd S hr e0 hb rv hvl fun hr' => ?_
    have C : Cok (cxOf (L2.CX P w) P w K mg base N qual (defScope st) f cdv A outer s H E) := ⟨rfl, by have := hr'.un; show (A.deeper (envOfC qual (defScope st) s.heap.objs.size f cdv)).units + 200 < cLine; omega, hgd, S.nd, PassesOwn.leaving⟩
    have tk : Takes (cxOf (L2.CX P w) P w K mg base N qual (defScope st) f cdv A outer s H E) (wX (cgOf R E sub Fs).W) := (takes_of rfl rfl rfl rfl).imp fun c d σ H ⟨_, z⟩ => z
    exact ⟨_, (hbody cdv A outer s H E R hR C hr' tk).run, fn_run g r hN h⟩
end
end G

set_option maxHeartbeats 1000000
/-! G.Snd12: isinstance, repr, xs[::-1]. -/
namespace G
open PySem L2 PyProof.Rows
section
variable {g : Cg} {X : Cx} {R : Rn} {W : WD} {σ : St} {e : Env} {H : Hp} {Ls : Nat → List Addr} {F : List Addr} {sub : Nat → List Nat}
def rIsQ (sub : Nat → List Nat) (ts : List Ty) : V → Hp → VK → Prop := fun x H Q => ∃ (R : Rn) (σ : St) (e : Env) (Ls : Nat → List Addr) (F : List Addr) (n : Nat) (d : D) (L : List Addr), Rep R H (Bn R Ls F) n d x L ∧ (tyD d).isSome = true ∧ (∀ t ∈ ts, t.own = false) ∧ Good R σ e H Ls F ∧ QK R σ e H Ls F 0 (.bl (ts.any fun t => isTy sub t d)) Q
theorem at_isi {ts : List Ty} {one : Bool} {x : V} {Q : VK} (h : At R σ e H Ls F sub (.isi ts one) [x] Q) : rIsQ sub ts x H Q := by
  obtain ⟨n, a, v, L, d, hv, r, hk, hf, k, g⟩ := at_1 (fun _ => rfl) h
  cases hv
  split at hf
  · rename_i hz
    cases hf
    obtain ⟨h1, h2⟩ := Bool.and_eq_true_iff.mp hz
    exact ⟨R, σ, e, Ls, F, n, a, L, r, h1, fun t ht => by simpa using List.all_eq_true.mp h2 t ht, g, k⟩
  · cases hf
/-- a built-in class by its name -/
structure JTy (X : Cx) (a : Expr) (t : Ty) : Prop where
  val : PE X a (tC (.ty t.nm))
section
variable {p pos tpos : Pos} {a b : Expr} {as : List Expr} {x : E} {t : Ty} {ts : List Ty} {k : Nat}
theorem jty_int (hg : Gl X "int") (hm : X.mg "int" = none) : JTy X (.Name "int" p) .int := ⟨pe_bltn hg hm (by rfl) (by rfl)⟩
theorem jty_bool (hg : Gl X "bool") (hm : X.mg "bool" = none) : JTy X (.Name "bool" p) .bool := ⟨pe_bltn hg hm (by rfl) (by rfl)⟩
theorem jty_str (hg : Gl X "str") (hm : X.mg "str" = none) : JTy X (.Name "str" p) .str := ⟨pe_bltn hg hm (by rfl) (by rfl)⟩
theorem jty_list (hg : Gl X "list") (hm : X.mg "list" = none) : JTy X (.Name "list" p) .list := ⟨pe_bltn hg hm (by rfl) (by rfl)⟩
theorem jty_tuple (hg : Gl X "tuple") (hm : X.mg "tuple" = none) : JTy X (.Name "tuple" p) .tuple := ⟨pe_bltn hg hm (by rfl) (by rfl)⟩
theorem jty_dict (hg : Gl X "dict") (hm : X.mg "dict" = none) : JTy X (.Name "dict" p) .dict := ⟨pe_bltn hg hm (by rfl) (by rfl)⟩
theorem jty_set (hg : Gl X "set") (hm : X.mg "set" = none) : JTy X (.Name "set" p) .set := ⟨pe_bltn hg hm (by rfl) (by rfl)⟩
def JTys (X : Cx) (as : List Expr) (ts : List Ty) : Prop := PA X as fun _ H Q => Q (ts.map fun t => V.ty t.nm) H
theorem jtys_nil : JTys X [] [] := pa_nil
theorem jtys_cons (ha : JTy X a t) (hr : JTys X as ts) (hs : starEach (a :: as) X.env = (false, eval a X.env) :: starEach as X.env := by rfl) : JTys X (a :: as) (t :: ts) := PA.imp (pa_cons ha.val hr hs) fun σ H Q z => z
theorem je_isi1 (hg : Gl X "isinstance") (hm : X.mg "isinstance" = none) (ha : JE g X a x) (ht : JTy X b t) (z : Pl1 X pos a [b] := by exact {}) (z2 : starEach [b] X.env = (false, eval b X.env) :: starEach [] X.env := by rfl) :
    JE g X (.Call (.Name "isinstance" p) [a, b] [] pos) (.b (.isi [t] true) (.cons x .nil)) :=
  .of ((pe_callB (cr_isi (sub := g.sub)) hg hm (by rfl) (pa_cons ha.plc (pa_cons ht.val pa_nil z2) z.he) (by decide) (by decide) z.he z.hpl).imp fun σ H Q h => by
    refine tP_mono (b1_run (r := rIsQ g.sub [t]) at_isi h) fun v H1 q => ?_
    obtain ⟨R, σ, e, Ls, F, n, d, L, r, h1, h2, gd, k⟩ := q
    exact ⟨R, _, n, d, v, L, [t], r, h1, h2, .inl ⟨t, rfl, rfl⟩, k.bl gd⟩) (fun _ => rfl) rfl fun _ => rfl
theorem je_isiN (hg : Gl X "isinstance") (hm : X.mg "isinstance" = none) (ha : JE g X a x) (ht : JTys X as ts) (z : Pl1 X pos a [.Tuple as k tpos] := by exact {}) (z2 : starEach [.Tuple as k tpos] X.env = (false, eval (.Tuple as k tpos) X.env) :: starEach [] X.env := by rfl) (hts : decide (ts.length ≤ 1000) = true := by rfl) :
    JE g X (.Call (.Name "isinstance" p) [a, .Tuple as k tpos] [] pos) (.b (.isi ts false) (.cons x .nil)) :=
  .of ((pe_callB (cr_isi (sub := g.sub)) hg hm (by rfl) (pa_cons ha.plc (pa_cons (pe_tup (x1 := k) ht) pa_nil z2) z.he) (by decide) (by decide) z.he z.hpl).imp fun σ H Q h => by
    refine tP_mono (b1_run (r := rIsQ g.sub ts) at_isi h) fun v H1 q => ?_
    obtain ⟨R, σ, e, Ls, F, n, d, L, r, h1, h2, gd, k⟩ := q
    refine ⟨by rw [List.length_map]; exact sz1000 hts, fun tp htp => ?_⟩
    obtain ⟨g', s⟩ := gd.newT (o := .tup (ts.map fun t => V.ty t.nm)) htp
    exact ⟨R, _, n, d, v, L, ts, r.by s (fun b hb => upd_ne fun z => by
      obtain ⟨o, q⟩ := Rep.has n d v L r b hb
      rw [z, htp] at q
      cases q), h1, h2, .inr ⟨tp, rfl, upd_same⟩, k _ _ [] s g' (by simp [Rep])⟩) (fun _ => rfl) rfl fun _ => rfl
/-! ### repr -/
theorem at_repr {vs : List V} {Q : VK} (h : At R σ e H Ls F sub .repr vs Q) : rReprG vs H Q := by
  obtain ⟨n, a, v, L, d, rfl, r, hk, hf, k, g⟩ := at_1 (fun _ => rfl) h
  unfold reprD at hf
  split at hf
  · rename_i p hp
    split at hf
    · rename_i hz
      cases hf
      exact ⟨R, _, n, a, v, L, p, rfl, r, hp, hz.1, hz.2.1, hz.2.2.1, hz.2.2.2, k.str g⟩
    · cases hf
  · cases hf
theorem je_repr {xs : Es} (C : Cok X) (hg : Gl X "repr") (hm : X.mg "repr" = none) (ha : JA g X [a] xs) (z : Pl1 X pos a [] := by exact {}) : JE g X (.Call (.Name "repr" p) [a] [] pos) (.b .repr xs) := je_callB (cr_repr C) at_repr hg hm (by rfl) ha (by decide) (by decide) z.he z.hpl
/-! ### sorted of ints -/
end
end
end G

set_option maxHeartbeats 1000000
/-! G.Snd13: calls with keywords. -/
namespace G
open PySem L2 PyProof.Rows
section
variable {g : Cg} {X : Cx} {R : Rn} {W : WD} {σ : St} {e : Env} {H : Hp} {Ls : Nat → List Addr} {F : List Addr} {sub : Nat → List Nat}
def permV (vs : List V) (ord : List Nat) : List V := ord.map fun i => vs.getD i .non
def permW (ws : List Value) (ord : List Nat) : List Value := ord.map fun i => ws.getD i .none
theorem Vals.getD {vs : List V} {us : List Value} (r : Vals vs us) (i : Nat) : RelV (vs.getD i .non) (us.getD i .none) := by
  induction r generalizing i with
  | nil => simp; rfl
  | cons a r ih =>
    cases i with
    | zero => simpa using a
    | succ i => simpa using ih i
theorem Vals.perm {vs : List V} {us : List Value} (r : Vals vs us) : ∀ ord : List Nat, Vals (permV vs ord) (permW us ord)
  | [] => .nil
  | i :: ord => .cons (Vals.getD r i) (Vals.perm r ord)
theorem Reps.perm {B : Addr → Prop} {l : List (Nat × D)} {vs : List V} (r : Reps R H B 0 (l.map (·.2)) vs []) : ∀ {ord : List Nat}, (∀ i ∈ ord, i < l.length) → Reps R H B 0 (permD l ord) (permV vs ord) []
  | [], _ => .nil
  | i :: ord, h => by
    have hi := h i List.mem_cons_self
    have e1 : (l.map (·.2))[i]? = some (l[i]).2 := by rw [List.getElem?_map, List.getElem?_eq_getElem hi]; rfl
    obtain ⟨v, hv, rv⟩ := r.get e1
    refine .cons ?_ (Reps.perm r fun j hj => h j (List.mem_cons_of_mem _ hj))
    show Rep R H B 0 (l.getD i (0, D.non)).2 (vs.getD i V.non) []
    rw [List.getD_eq_getElem?_getD, List.getD_eq_getElem?_getD, hv, List.getElem?_eq_getElem hi]
    exact rv
/-- a callee's end is ours; the arguments as the parameters stand -/
theorem callP_run {j : Nat} {es : Es} {kw : List Str} {ord : List Nat} {n : Nat} {ok : Rn → Prop} {Q : VK} (hR : ok g.R) (hn : ord.length = n) (hlt : ∀ i ∈ ord, i < n) (h : tV g.R g.W (ev g.sub g.F (.f j es kw ord)).val σ H Q) :
    tCallS (fun vs H Q E => fsp ok n (g.F j) (permV vs ord) H Q E ∧ vs.length = n) (WE (wX g.W)) (tA g.R g.W (evPs g.sub g.F es)) σ H Q := by
  refine vl_run h fun l e' vs H' H0 B0 Ls' F h st gd rp => ?_
  obtain ⟨hl, h⟩ := tst_all h no_V
  have hl : l.length = n := by rw [← hn]; simpa using hl
  obtain ⟨gt, sT⟩ := gd.trim
  have rp := Reps.by (L := []) sT (fun _ z => nomatch z) rp
  have st := st.trans sT fun a z => z
  obtain ⟨gs, hb⟩ := gt.seen
  generalize trimL σ.length Ls' = L1 at gt sT rp st gs hb
  generalize hA : ownL σ.length L1 ++ F = A at gs hb
  have subF : ∀ a ∈ F, a ∈ A := fun a z => by rw [← hA]; exact List.mem_append_right _ z
  have subL : ∀ i, ∀ a ∈ L1 i, a ∈ A := fun i a z => by
    have := (hb a).mpr (.inr (.inl ⟨i, z⟩))
    rcases this with q | ⟨i, q⟩ | q
    · exact q
    · cases q
    · exact absurd z ((gt.ra a q).2 i)
  have hv : vs.length = n := by rw [rp.length, List.length_map]; exact hl
  refine ⟨⟨g.R, hR, permD l ord, A, gs, Reps.by (L := []) (F := []) (Step.of_iff hb) (fun _ z => nomatch z) (rp.perm fun i hi => by rw [hl]; exact hlt i hi), by unfold permD; rw [List.length_map]; exact hn, ?_⟩, hv⟩
  have h2 : (g.F j (permD l ord)).All fun r => (foE r e').All (PostV g.R g.W σ H0 B0 F Q) := by
    have h3 : ((g.F j (permD l ord)).bind fun a => Tr.ret (Rs.ok a e')).All (fun r => (mk foE r).All (PostV g.R g.W σ H0 B0 F Q)) := all_mb.mp h
    exact (Tr.all_bind (f := fun a => Tr.ret (Rs.ok a e'))).mp h3
  refine h2.mono fun r hr => ?_
  match r, hr with
  | .no, hr => exact hr
  | .ok fr d, hr =>
    intro v H2 Lt s2 g2 r2
    have hb2 : ∀ a, Bn g.R L1 (Lt ++ F) a ↔ Bn g.R nL (Lt ++ A) a := fun a => by
      constructor
      · rintro (z | ⟨i, z⟩ | z)
        · rcases List.mem_append.mp z with z | z
          · exact .inl (List.mem_append_left _ z)
          · exact .inl (List.mem_append_right _ (subF a z))
        · exact .inl (List.mem_append_right _ (subL i a z))
        · exact .inr (.inr z)
      · rintro (z | ⟨i, z⟩ | z)
        · rcases List.mem_append.mp z with z | z
          · exact .inl (List.mem_append_left _ z)
          · rcases (hb a).mp (.inl z) with y | y
            · exact .inl (List.mem_append_right _ y)
            · exact .inr y
        · cases z
        · exact .inr (.inr z)
    have s3 : Step H' (Bn g.R L1 F) H2 (Bn g.R L1 (Lt ++ F)) F := ⟨fun a o q nb => s2.ext a o q fun z => nb ((hb a).mp z), fun a z => s2.frm a (subF a z), fun a z => (s2.bn a ((hb2 a).mp z)).imp (fun y => (hb a).mp y) id⟩
    have nd2 := List.nodup_append.mp g2.fd
    have g3 : Good g.R σ e' H2 L1 (Lt ++ F) := gt.step s3 (fun i a z => s2.frm a (subL i a z)) g2.rnd nd2.1 (fun a z => ⟨?_, g2.own a (.inl (List.mem_append_left _ z))⟩) fun a z => g2.own a (.inr (.inr z))
    · exact hr v H2 L1 Lt (st.trans s3 fun a z => z) g3 (Rep.by (F := []) (Step.of_iff hb2) (fun _ _ => rfl) r2)
    · rcases s2.bn a (.inl (List.mem_append_left _ z)) with y | y
      · exfalso
        rcases y with y | ⟨i, y⟩ | y
        · exact nd2.2.2 a z a y rfl
        · cases y
        · exact (g2.ra a y).1 (List.mem_append_left _ z)
      · exact y
  | .err x, hr =>
    intro H2 s2 g2 cls dd x2
    have s3 : Step H' (Bn g.R L1 F) H2 (Bn g.R L1 F) F := ⟨fun a o q nb => s2.ext a o q fun z => nb ((hb a).mp z), fun a z => s2.frm a (subF a z), fun a z => .inl z⟩
    have g3 : Good g.R σ e' H2 L1 ([] ++ F) := gt.step (Lt := []) s3 (fun i a z => s2.frm a (subL i a z)) g2.rnd List.nodup_nil (fun a z => nomatch z) fun a z => g2.own a (.inr (.inr z))
    exact ⟨x, hr H2 L1 (st.trans s3 fun a z => z) g3 cls dd (x2.by (F := []) (Step.of_iff fun a => (hb a).symm))⟩

/-- arguments, then keywords -/
structure JK (g : Cg) (X : Cx) (as : List Expr) (kws : List Keyword) (es : Es) : Prop where
  run : ∀ (pos : Pos) (pins : List (Addr × Obj)) (s : Shared) (σ : St) (H : Hp) (Q : List V → Hp → Prop), L2.Inv X pins σ H s → tA g.R g.W (evPs g.sub g.F es) σ H Q →
    wpAny (model X.prog X.w) X.A (spliced (backTo pos (starEach as X.env))) (fun us s1 => wpAny (model X.prog X.w) X.A (evalAll ((backToKw pos (keywordEach kws X.env)).map (·.2))) (fun ws s2 => AP X pins σ Q (us ++ ws) s2) X.xe s1 ∧ us.length = as.length) X.xe s
/-- keywords alone -/
def JW (g : Cg) (X : Cx) (kws : List Keyword) (es : Es) : Prop := PK X kws (tA g.R g.W (evPs g.sub g.F es))
theorem PK.imp {X : Cx} {a : List Keyword} {t u : TA} (h : PK X a t) (f : ∀ σ H Q, u σ H Q → t σ H Q) : PK X a u := ⟨fun p pins s σ H Q I z => h.run p pins s σ H Q I (f _ _ _ z)⟩
theorem jw_nil : JW g X [] .nil := PK.imp pk_nil fun σ H Q z => tA_nil z
theorem jw_cons {a : Expr} {x : E} {kws : List Keyword} {es : Es} {nm : Option Str} {kpos : Pos} (ha : JE g X a x) (hr : JW g X kws es) : JW g X (⟨nm, a, kpos⟩ :: kws) (.cons x es) := PK.imp (pk_cons ha.plc hr) fun σ H Q z => tA_cons z
theorem jk_kw {kws : List Keyword} {es : Es} (h : JW g X kws es) : JK g X [] kws es := ⟨fun pos pins s σ H Q I z => Calls.spliced_nil ⟨thn (h.run pos pins s σ H Q I z) fun ws s2 q => q, rfl⟩⟩
theorem jk_cons {a : Expr} {as : List Expr} {x : E} {kws : List Keyword} {es : Es} (ha : JE g X a x) (hr : JK g X as kws es) (hs : starEach (a :: as) X.env = (false, eval a X.env) :: starEach as X.env := by rfl) : JK g X (a :: as) kws (.cons x es) := by
  refine ⟨fun pos pins s σ H Q I h => ?_⟩
  rw [hs]
  show wpAny _ _ (spliced ((false, eval a X.env) :: backTo pos (starEach as X.env))) _ _ s
  have h1 : tCons (tP g.R g.W (plOf x (ev g.sub g.F x).val)) (tA g.R g.W (evPs g.sub g.F es)) σ H Q := tA_cons h
  refine Calls.spliced_cons (thn (ha.plc.run pins s σ H _ I h1) fun u s1 ⟨y, H1, I1, r1, q1⟩ => ?_)
  exact thn (hr.run pos pins s1 σ H1 _ I1 q1) fun us s2 ⟨z, hl⟩ => ⟨thn z fun ws s3 ⟨xs, H2, I2, r2, q2⟩ => ⟨y :: xs, H2, I2, .cons r1 r2, q2⟩, by simp [hl]⟩
section
variable {k n j : Nat} {f : Addr} {fd : FuncData} {ps ks : List Str} {sp : Sp} {x : Str} {p pos : Pos} {a : Expr} {as : List Expr} {kws : List Keyword} {es : Es} {ord : List Nat} {ok : Rn → Prop}
theorem run_k {pins : List (Addr × Obj)} {s : Shared} {Q : VK} {E : XK} {us ws : List Value} {vs : List V} (C : Cok X) (FG : FnG X.prog X.w X.K X.mg X.base k f fd ps sp) (hr : Room k X.A) (hx : PassesAt (L2.CX X.prog X.w) X σ E) (I : L2.Inv X pins σ H s)
    (hb : BindsTo s fd ⟨us, ks.zip ws⟩ (ps.zip (permW (us ++ ws) ord))) (r : Vals vs (us ++ ws)) (h : sp (permV vs ord) H Q E) : wpAny (model X.prog X.w) X.A (call (.ref f) us (ks.zip ws)) (EP X pins σ Q) X.xe s := by
  refine wpAny_call (codeAny_mono (FG.run X.A X.stack s H ⟨us, ks.zip ws⟩ (permW (us ++ ws) ord) (permV vs ord) Q E hr C.gd I.env0 hb (Vals.perm r ord) h) fun r s' hq => ?_)
  match r, hq with
  | .error e, hq => exact hx pins H s e s' I hq
  | .ok (.ret u), hq => exact I.after hq
  | .ok .next, hq => exact hq.elim
  | .ok .brk, hq => exact hq.elim
  | .ok .cont, hq => exact hq.elim
/-- how many arguments there are before the keywords; names bound as the parameters stand -/
structure BindK (fd : FuncData) (ps ks : List Str) (m n : Nat) (ord : List Nat) : Prop where
  to : ∀ (s : Shared) (us ws : List Value), us.length = m → (us ++ ws).length = n → BindsTo s fd ⟨us, ks.zip ws⟩ (ps.zip (permW (us ++ ws) ord))
theorem je_callK {fj : Fn} (C : Cok X) (FG : FnG X.prog X.w X.K X.mg X.base k f fd ps (fsp ok n fj)) (hF : g.F j = fj) (hR : ok g.R) (tk : Takes X (wX g.W)) (hr : Room k X.A) (hg : Gl X x) (hm : X.mg x = some (.ref f)) (hk : PySem.W.keepIn X.K (.ref f) = true) (hb : BindK fd ps ks 0 n ord) (ha : JW g X kws es)
    (hn : ord.length = n := by rfl) (hlt : ∀ i ∈ ord, i < n := by decide) (hall : (backToKw pos (keywordEach kws X.env)).all (·.1.isSome) = true := by rfl) (hks : (backToKw pos (keywordEach kws X.env)).filterMap (·.1) = ks := by rfl)
    (hdb : (x == ("__debug__" : Str)) = false := by decide) (hpl : ((backTo pos (starEach [] X.env)).any (·.1) || (backToKw pos (keywordEach kws X.env)).any (·.1.isNone)) = false := by rfl) : JE g X (.Call (.Name x p) [] kws pos) (.f j es ks ord) := by
  subst hF
  have hv : PE X (.Call (.Name x p) [] kws pos) (tCallS (fun vs H Q E => fsp ok n (g.F j) (permV vs ord) H Q E ∧ vs.length = n) (WE (wX g.W)) (tA g.R g.W (evPs g.sub g.F es))) := by
    refine ⟨fun pins s σ H Q I h => wpAny_Call_Name_kw (ld_glob I hg hm ?_ hdb)⟩
    refine PySem.W.callWith_KW0 (h₀ := X.base) I.ok.mod.kin hk hall (thn (ha.run pos pins s σ H _ I h) fun ws s2 ⟨vs, H2, I2, r, q, hl⟩ => ⟨I2.kIn, ?_⟩) hpl
    rw [hks]
    exact run_k C FG hr (passAt tk σ) I2 (hb.to s2 [] ws rfl (by rw [List.nil_append, ← r.length]; exact hl)) r q
  exact .of (hv.imp fun σ H Q z => callP_run hR hn hlt z) (fun _ => rfl) rfl fun _ => rfl
theorem je_callM {fj : Fn} {m : Nat} (C : Cok X) (FG : FnG X.prog X.w X.K X.mg X.base k f fd ps (fsp ok n fj)) (hF : g.F j = fj) (hR : ok g.R) (tk : Takes X (wX g.W)) (hr : Room k X.A) (hg : Gl X x) (hm : X.mg x = some (.ref f)) (hk : PySem.W.keepIn X.K (.ref f) = true) (hb : BindK fd ps ks (as.length + 1) n ord) (ha : JK g X (a :: as) kws es)
    (hn : ord.length = n := by rfl) (hlt : ∀ i ∈ ord, i < n := by decide) (hall : (backToKw pos (keywordEach kws X.env)).all (·.1.isSome) = true := by rfl) (hks : (backToKw pos (keywordEach kws X.env)).filterMap (·.1) = ks := by rfl)
    (hdb : (x == ("__debug__" : Str)) = false := by decide) (hpl : ((backTo pos (starEach (a :: as) X.env)).any (·.1) || (backToKw pos (keywordEach kws X.env)).any (·.1.isNone)) = false := by rfl)
    (he : starEach (a :: as) X.env = (false, eval a X.env) :: starEach as X.env := by rfl) : JE g X (.Call (.Name x p) (a :: as) kws pos) (.f j es ks ord) := by
  subst hF
  have hv : PE X (.Call (.Name x p) (a :: as) kws pos) (tCallS (fun vs H Q E => fsp ok n (g.F j) (permV vs ord) H Q E ∧ vs.length = n) (WE (wX g.W)) (tA g.R g.W (evPs g.sub g.F es))) := by
    refine ⟨fun pins s σ H Q I h => wpAny_Call_Name_kw (ld_glob I hg hm ?_ hdb)⟩
    refine PySem.W.callWith_KW (h₀ := X.base) I.ok.mod.kin hk hall (thn (ha.run pos pins s σ H _ I h) fun us s1 ⟨z, hu⟩ => thn z fun ws s2 ⟨vs, H2, I2, r, q, hl⟩ => ⟨I2.kIn, ?_⟩) hpl he
    rw [hks]
    exact run_k C FG hr (passAt tk σ) I2 (hb.to s2 us ws hu (by rw [← r.length]; exact hl)) r q
  exact .of (hv.imp fun σ H Q z => callP_run hR hn hlt z) (fun _ => rfl) rfl fun _ => rfl
end
end
end G

set_option maxHeartbeats 1000000
/-! G.Snd14: xs[::-1] of lists and tuples. -/
namespace L2
open PySem PySem.Spec PyProof.Rows
theorem pick_back (us : Array Value) : ((List.range us.size).filterMap fun (m : Nat) => us[((us.size : Int) - 1 + (m : Int) * -1).toNat]?).toArray = us.toList.reverse.toArray := by
  have e : (fun (m : Nat) => us[((us.size : Int) - 1 + (m : Int) * -1).toNat]?) = (fun k => us[k]?) ∘ fun m => us.size - 1 - m := by
    funext m
    have z : ((us.size : Int) - 1 + (m : Int) * -1).toNat = us.size - 1 - m := by omega
    simp only [Function.comp, z]
  rw [e, ← List.filterMap_map, PySem.W.krv_range, List.filterMap_reverse, PySem.W.krv_all]
theorem places_back (n : Nat) : Builtin.Slice.slicePlaces ((n : Int) - 1) (-1) (-1) = n := by
  unfold Builtin.Slice.slicePlaces
  rw [if_neg (by decide)]
  by_cases h : ((n : Int) - 1) > -1
  · rw [if_pos h]
    have z : ((n : Int) - 1 - -1 - 1) / (- -1) + 1 = (n : Int) := by
      rw [show (- -1 : Int) = 1 by decide, Int.ediv_one]
      omega
    rw [z]
    omega
  · rw [if_neg h]
    omega
section
variable {prog : Program} {w : World} {A : Around} {E : Value → Shared → Prop} {s : Shared}
theorem getItem_tup_back {t sl : Addr} {us : Array Value} {vl vu vs : Value} {Q : Value → Shared → Prop} (ht : IsTup s.heap t us) (hs : s.heap.IsSliceOf sl vl vu vs) (pl : IsPart vl none) (pu : IsPart vu none) (ps : IsPart vs (some (-1)))
    (k : Q (.ref s.heap.objs.size) { s with heap := s.heap.push { cls := .type "tuple", data := .seq us.toList.reverse.toArray } }) (hz : us.size ≤ sizeLine) : wpAny (model prog w) A (getItem (.ref t) (.ref sl)) Q E s := by
  have fits : sizeOk (.seq us.toList.reverse.toArray) := by
    show us.toList.reverse.toArray.size ≤ sizeLine
    rw [List.size_toArray, List.length_reverse, Array.length_toList]
    exact hz
  obtain ⟨ob, hob, hcl, hda⟩ := id hs
  have isS : s.TypeIs (.ref sl) "slice" := ⟨ob, hob, hcl⟩
  unfold getItem
  try with_reducible refine wpAny_holding ?_
  first | refine wpAny_bind (wpAny_pure ?_) | skip
  refine wpAny_bind (wpAny_sequenceKey ht.typeIs (by decide) ?_)
  refine wpAny_bind (wpAny_callSpecial?_slot (name := Str.ofString "__getitem__") ht.typeIs PyProof.Rows.slot_tuple_getitem (wpAny_call_entry PyProof.Rows.slot_tuple_getitem ht.typeIs entry_tuple_getitem ?_ (args_tuple_getitem _ _)))
  show wpAny (model prog w) _ (Builtin.Tuple.tupleItemsOf (.ref t) >>= _) _ _ s
  refine wpAny_bind (tupleItemsOf_ ht ?_)
  refine wpAny_bind (wpAny_typeOf isS ?_)
  rw [if_pos (by decide)]
  refine wpAny_bind ?_
  · unfold Builtin.Slice.sliceApplied Builtin.Slice.sliceFields
    refine wpAny_bind (wpAny_bind (wpAny_field hob hda (x := vl) rfl (wpAny_bind (wpAny_field hob hda (x := vu) rfl (wpAny_bind (wpAny_field hob hda (x := vs) rfl (wpAny_pure ?_)))))))
    refine wpAny_bind (HT.slicePart_ ps ?_)
    show wpAny _ _ (if ((-1 : Int) == 0) = true then _ else _) _ _ s
    rw [if_neg (by decide)]
    refine wpAny_bind (HT.slicePart_ pl (wpAny_bind (HT.slicePart_ pu (wpAny_bind (wpAny_pure ?_)))))
    show wpAny _ _ (pure ((us.size : Int) - 1, (-1 : Int), Builtin.Slice.slicePlaces ((us.size : Int) - 1) (-1) (-1))) _ _ s
    rw [places_back]
    refine wpAny_pure ?_
    have no : ¬ ((((us.size : Int) - 1) == 0 && (-1 : Int) == 1 && us.size == us.size) = true) := by simp
    show wpAny _ _ (if ((((us.size : Int) - 1) == 0 && (-1 : Int) == 1 && us.size == us.size) = true) then _ else _) _ _ s
    rw [if_neg no, pick_back]
    first
      | exact wpAny_bind (m := Builtin.Tuple.tupleExact _) (wpAny_newObj_type (wpAny_pure ⟨_, rfl, wpAny_pure k⟩) fits)
      | exact wpAny_bind (m := Builtin.Tuple.tupleExact _) (wpAny_newObj_type (wpAny_bind (wpAny_pure (wpAny_pure ⟨_, rfl, wpAny_pure k⟩))) fits)
      | exact wpAny_bind (wpAny_bind (m := Builtin.Tuple.tupleExact _) (wpAny_newObj_type (wpAny_pure (wpAny_pure ⟨_, rfl, wpAny_pure k⟩)) fits))
      | exact wpAny_bind (wpAny_bind (m := Builtin.Tuple.tupleExact _) (wpAny_newObj_type (wpAny_pure ⟨_, rfl, wpAny_pure k⟩) fits))
end
def tRevA (K : PySem.W.Frag) (te : TE) : TE := fun σ H Q => te σ H fun x H1 => ∃ a xs, x = .ref a ∧ ((SqL K H1 a xs ∧ ∀ p, H1 p = none → Q (.ref p) (upd H1 p (.lst xs.reverse))) ∨ (SqT K H1 a xs ∧ ∀ p, H1 p = none → Q (.ref p) (upd H1 p (.tup xs.reverse))))
section
variable {X : Cx}
theorem pe_revA {e : Expr} {te : TE} {k : Nat} {p1 p2 p3 pos : Pos} (he : PE X e te) : PE X (.Subscript e (.Slice none none (some (.UnaryOp .USub (.Constant (.int 1) k p1) p2)) p3) pos) (tRevA X.K te) := by
  refine ⟨fun pins s σ H Q I h => Subscript_ (thn (he.run pins s σ H _ I h) fun v s1 ⟨x, H1, I1, r1, q1⟩ => ?_)⟩
  obtain ⟨a, xs, rfl, q⟩ := q1
  cases r1
  have stp : PO X (some (.UnaryOp .USub (.Constant (.int 1) k p1) p2)) (tPart (tUn (rU fun i => .int (-i)) (tC (.int 1)))) := po_some (pe_un un_neg pe_int)
  refine wpAny_Slice (thn (po_none.run pins s1 σ H1 (fun o H2 => o = none ∧ H2 = H1) I1 ⟨rfl, rfl⟩) fun vl s2 ⟨o1, H2, I2, pl, e1, e2⟩ => ?_)
  subst e1 e2
  refine thn (po_none.run pins s2 σ H2 (fun o H3 => o = none ∧ H3 = H2) I2 ⟨rfl, rfl⟩) fun vu s3 ⟨o2, H3, I3, pu, e3, e4⟩ => ?_
  subst e3 e4
  refine thn (stp.run pins s3 σ H3 (fun o H4 => o = some (-1) ∧ H4 = H3) I3 ⟨1, rfl, -1, rfl, rfl, rfl⟩) fun vs s4 ⟨o3, H4, I4, ps, e5, e6⟩ => ?_
  subst e5 e6
  have I5 : Inv X pins σ H4 { s4 with heap := s4.heap.push { cls := .type "slice", data := .fields #[vl, vu, vs] } } := I4.kept (t' := s4.toks) fun b ob q => Heap.get?_push_of_some _ q
  have nn := I5.hok.fresh (Nat.le_refl _)
  show wpAny (model X.prog X.w) X.A (subscriptTail e (.Slice none none (some (.UnaryOp .USub (.Constant (.int 1) k p1) p2)) p3) (.ref a) (.ref s4.heap.objs.size)) (EP X pins σ Q) X.xe _
  rcases q with ⟨hx, q⟩ | ⟨hx, q⟩
  · obtain ⟨its, r, ht, hz⟩ := I5.list hx
    have hl := r.length
    refine tail_any (ops := [.ref a, .ref s4.heap.objs.size]) ht.isList.typeIs (PySem.slot_list_getitem.lookup) ?_ (by with_unfolding_all rfl)
    refine wpAny_getItem_list_slice ht.isList (Heap.IsSliceOf.new _ vl vu vs) pl pu ps (by decide) ?_ (by rw [List.size_toArray]; omega)
    rw [PySem.W.krv_pick]
    exact ⟨.ref _, _, I5.laid (t' := s4.toks) (o := .lst xs.reverse) (fun b ob q => Heap.get?_push_of_some _ q) (Nat.le_refl _) ⟨by rw [List.length_reverse]; exact hz, _, 0, r.reverse, Heap.get?_push_size _ rfl⟩, rfl, q _ nn⟩
  · obtain ⟨its, r, ht, hz⟩ := I5.tuple hx
    have hl := r.length
    refine tail_any (ops := [.ref a, .ref s4.heap.objs.size]) (IsTup.typeIs ht) (PyProof.Rows.slot_tuple_getitem.lookup) ?_ (by with_unfolding_all rfl)
    refine getItem_tup_back ht (Heap.IsSliceOf.new _ vl vu vs) pl pu ps ?_ (by rw [List.size_toArray]; omega)
    exact ⟨.ref _, _, I5.laid (t' := s4.toks) (o := .tup xs.reverse) (fun b ob q => Heap.get?_push_of_some _ q) (Nat.le_refl _) ⟨by rw [List.length_reverse]; exact hz, _, r.reverse, ⟨_, Heap.get?_push_size _ rfl, rfl, _, rfl⟩⟩, rfl, q _ nn⟩
end
end L2
namespace G
open PySem L2 PyProof.Rows
section
variable {g : Cg} {X : Cx} {R : Rn} {W : WD} {σ : St} {e : Env} {H : Hp} {Ls : Nat → List Addr} {F : List Addr} {sub : Nat → List Nat}
def rRev (K : PySem.W.Frag) : V → Hp → VK → Prop := fun x H Q => ∃ a xs, x = .ref a ∧ ((SqL K H a xs ∧ ∀ p, H p = none → Q (.ref p) (upd H p (.lst xs.reverse))) ∨ (SqT K H a xs ∧ ∀ p, H p = none → Q (.ref p) (upd H p (.tup xs.reverse))))
theorem at_rev {x : V} {Q : VK} (h : At R σ e H Ls F sub .rev [x] Q) : rRev X.K x H Q := by
  obtain ⟨n, a, v, L, d, hv, r, hk, hf, k, gd⟩ := at_1 (fun _ => rfl) h
  cases hv
  unfold revD at hf
  split at hf
  · cases hf
    obtain ⟨p, xs, rfl, e1, q1⟩ := r.lst hk
    exact ⟨p, xs, rfl, .inl ⟨.of e1, k.newL gd (Reps.rev q1)⟩⟩
  · cases hf
    obtain ⟨p, xs, rfl, e1, nb, q1⟩ := r.tup hk
    have k0 : QK R σ e H Ls F 0 _ Q := k
    exact ⟨p, xs, rfl, .inr ⟨.of e1, k0.newT gd (Reps.rev q1)⟩⟩
  · cases hf
theorem je_rv {a : Expr} {x : E} {k : Nat} {p1 p2 p3 pos : Pos} (ha : JE g X a x) : JE g X (.Subscript a (.Slice none none (some (.UnaryOp .USub (.Constant (.int 1) k p1) p2)) p3) pos) (.b .rev (.cons x .nil)) :=
  .of ((pe_revA ha.plc).imp fun σ H Q z => b1_run (r := rRev X.K) at_rev z) (fun _ => rfl) rfl fun _ => rfl
end
end G

set_option maxHeartbeats 400000
/-! G.Exn1: errors as data: what the text must say of their classes; isinstance, attributes. -/
namespace PySem.W
open PySem PySem.Spec PySem.Calls PyProof.Rows
section
variable {prog : Program} {w : World} {A : Around} {E : Value → Shared → Prop} {s : Shared} {K : Frag} {x D : Addr} {ox : Obj} {od : Option Obj}
theorem g_data {C : Addr} {nm : Str} {a g : Value} (hc : (clsIn K C).isSome = true) (ha : findIn K (.ref C) nm = some (some a)) (hg : specialIn K a "__get__" = some (some g)) (ht : takesIn K a = some true) : findObj K C od nm = some (.bind g a) := by
  obtain ⟨c, e⟩ := Option.isSome_iff_exists.mp hc
  unfold findObj
  rw [e, Option.bind_some, ha]
  simp [hg, ht]
theorem g_class {Q : Option Value → Shared → Prop} (C : L2.ExcC K D) (X : K.In s.heap) (I : InstAt s.heap x ox D od) (hq : Q (some (.ref D)) { s with toks := s.toks + 1 }) : wpAny (model prog w) A (getAttr? (.ref x) "__class__") Q E s := by
  have z0 : findObj K D od "__class__" = some (.bind (.builtin "getset_descriptor.__get__") (.builtin "object.__class__")) := g_data (by obtain ⟨cd, hc, _⟩ := any_some C.hd; rw [hc]; rfl) C.ha C.hn C.ht
  obtain ⟨hp, g, d, t, os⟩ := s
  have l0 := I.type (M := model prog w)
  have l1 := looks_findIn (M := model prog w) X C.hg
  have l2 := looks_findIn (M := model prog w) X C.hk
  have l3 := looks_find (M := model prog w) X I z0
  have sb : Looks (model prog w) hp (isInstance (.ref x) (.type "BaseException")) true := l0.andThen (looks_subIn X C.hs)
  have n0 : (Value.builtin "BaseException.__getattribute__" == Value.builtin "object.__getattribute__") = false := by decide +kernel
  have n1 : (onTheHeap (Value.ref D) && Value.builtin "BaseException.__getattribute__" == Value.builtin "object.__getattribute__") = false := by rw [n0]; rfl
  have n2 : (false && onTheHeap (Value.builtin "BaseException.__getattribute__")) = false := rfl
  unfold getAttr? getAttrBy? getAttrBy
  refine wpAny_bind (wpAny_mkText (wpAny_bind (wpAny_attempt (wpAny_holding (wpAny_bind (l0.at (wpAny_bind (l1.at ?_))))))))
  show wpAny _ _ (if (onTheHeap (Value.ref D) && Value.builtin "BaseException.__getattribute__" == Value.builtin "object.__getattribute__") = true then _ else _) _ _ _
  rw [n1, if_neg Bool.false_ne_true]
  unfold getAttrByItsOwn hookBefore
  refine wpAny_bind ?_
  rw [if_pos (show onTheHeap (Value.ref D) = true from rfl)]
  refine l2.at (wpAny_bind (wpAny_attempt (wpAny_holding ?_)))
  unfold callGetattribute
  rw [n2, if_neg Bool.false_ne_true]
  unfold boundAndCalled
  rw [PySem.F.excAttr_ValueError.ga.bind (.ref x)]
  refine wpAny_bind (wpAny_pure ?_)
  show wpAny _ _ (call (.builtin "BaseException.__getattribute__") [.ref x, .str "__class__" t]) _ _ _
  refine wpAny_call (codeAny_call_builtin PySem.F.excAttr_ValueError.ga.plain PySem.F.entry_bexc_ga ?_)
  refine @check_slot (model prog w) _ _ ⟨hp, g, d, t + 1, os⟩ "BaseException.__getattribute__" "BaseException" "__getattribute__" (.ref x) [.str "__class__" t] [] _ (by decide +kernel) (by decide +kernel) sb (PySem.F.args_bexc_ga (.ref x) (.str "__class__" t)) ?_
  unfold Builtin.«object.__getattribute__»
  refine wpAny_bind (wpAny_of_eq (a := ((Value.ref x : Value), [Value.str "__class__" t])) (by first | rfl | (simp only [slotArgs]; rfl)) (wpAny_bind (wpAny_pure (wpAny_bind (l0.at (wpAny_bind (l3.at ?_)))))))
  show wpAny _ _ (holding [Value.builtin "object.__class__"] (call (.builtin "getset_descriptor.__get__") [.builtin "object.__class__", .ref x, .ref D]) >>= ret) _ _ _
  refine wpAny_bind (wpAny_holding (wpAny_call (class_get (s := ⟨hp, g, d, t + 1, os⟩) (ox := ox) (od := od) X I C.hm (wpAny_pure ?_))))
  show wpAny _ _ (handedOut (.ref D)) _ _ _
  rw [handedOut_of (v := .ref D) rfl]
  first
    | exact wpAny_pure (wpAny_pure hq)
    | exact wpAny_pure hq
    | exact wpAny_pure (wpAny_bind (wpAny_pure (wpAny_pure hq)))
theorem g_kit (C : L2.ExcC K D) : KitX K (.ref x) (.ref D) (fun h => ∃ ox od, InstAt h x ox D od) where
  ty := fun _ _ _ ⟨_, _, I⟩ => I.type
  it := fun _ _ X _ => by
    obtain ⟨cd, hc, _⟩ := any_some C.hd
    unfold clsIn at hc
    split at hc
    · rename_i c' d' cd' sl' ho
      intro A' Q' E' s' k q
      unfold isType loadHead
      exact wpAny_bind (wpAny_loadPart (k _ _ (X _ _ ho)) (wpAny_pure q))
    · cases hc
  ne := fun h tp dd its n sl X htp => by
    obtain ⟨cd, hc, _⟩ := any_some C.hd
    refine Bool.eq_false_iff.mpr fun q => ?_
    obtain rfl : D = tp := Value.ref.inj (beq_iff_eq.mp q)
    unfold clsIn at hc
    split at hc
    · rename_i c' d' cd' sl' ho
      cases (X _ _ ho).symm.trans htp
    · cases hc
  ca := fun X ⟨_, _, I⟩ k => g_class C X I k
end
end PySem.W
namespace G
open PySem L2 PyProof.Rows
/-- what the text says of the classes of errors: where they stand, their fields, their table of sub-classes -/
structure XT (K : PySem.W.Frag) (ca : Nat → Addr) (cf : Nat → List Str) (sub : Nat → List Nat) : Prop where
  ox : ∀ c, (sub c).isEmpty = false → OexC K (ca c)
  ec : ∀ c, (sub c).isEmpty = false → ExcC K (ca c)
  no : ∀ c f, (sub c).isEmpty = false → f ∈ cf c → PySem.W.findIn K (.ref (ca c)) f = some none
  is : ∀ c t, (sub c).isEmpty = false → (sub t).isEmpty = false → PySem.W.kitOne K (.ref (ca c)) (.ref (ca t)) = some ((sub c).contains t)
  ve : ∀ c, (sub c).isEmpty = false → PySem.W.kitOne K (.ref (ca c)) (.type "ValueError") = some true
  ex : ∀ c t, (sub c).isEmpty = false → (sub t).isEmpty = false → PySem.W.exmOne K (.ref (ca c)) (.ref (ca t)) = some ((sub c).contains t)
section
variable {g : Cg} {X : Cx} {R : Rn} {W : WD} {σ : St} {e : Env} {H : Hp} {Ls : Nat → List Addr} {F : List Addr} {sub : Nat → List Nat}
/-- an error in the heap -/
theorem exn_at {pins : List (Addr × Obj)} {s : Shared} {B : Addr → Prop} {a : Addr} {c n : Nat} {dd : Option Addr} {xs : List V} (I : L2.Inv X pins σ H s) (ha : H a = some (ExG (R.ca c) a dd)) (hd : XDict R H B c n dd xs) :
    ∃ ox od, PySem.W.InstAt s.heap a ox (R.ca c) od ∧ (∀ d, dd = some d → ∃ mA o, od = some o ∧ s.heap.Ns1 d mA ∧ (∀ f, RelO (((R.cf c).zip xs).lookup f) (mA f)) ∧ ∀ f, PySem.W.lookIn f o = some (mA f)) := by
  obtain ⟨⟨oe, vs, h1, h2, h3, h4⟩, _⟩ := I.hok a _ ha
  have nc : PySem.W.notCls oe = true := by unfold PySem.W.notCls; rw [h4]
  rcases hd.2 with ⟨_, rfl⟩ | ⟨d, rfl, _, hq⟩
  · exact ⟨oe, none, ⟨h1, h2, nc, by rw [h3]; trivial⟩, fun d z => nomatch z⟩
  · have hx : ObjOk X.prog X.w H s.heap d (.xd ((R.cf c).zip xs)) := I.hok d _ hq
    obtain ⟨mA, hns, hr⟩ := hx
    obtain ⟨o, es, ep, ho, hrest⟩ := id hns
    refine ⟨oe, some o, ⟨h1, h2, nc, by rw [h3]; exact ho⟩, fun d' z => ?_⟩
    cases z
    refine ⟨mA, o, rfl, hns, hr, fun f => ?_⟩
    obtain ⟨o', ho', hl⟩ := lookIn_ns hns
    rw [ho] at ho'
    cases ho'
    exact hl f

/-! ### isinstance -/
/-- a class by its name: one of ours, ValueError -/
def clsV (g : Cg) : Ty → V
  | .cls k => .ref (g.R.ca k)
  | .ve => .ty "ValueError"
  | _ => .non
def rIsx (K : PySem.W.Frag) : List V → Hp → VK → Prop := fun xs H Q => ∃ (R : Rn) (B : Addr → Prop) (n c : Nat) (fs : List D) (v cv : V) (L : List Addr) (b : Bool), xs = [v, cv] ∧ Rep R H B n (.exn c fs) v L ∧ ExcC K (R.ca c) ∧ (∀ u, RelV cv u → PySem.W.kitOne K (.ref (R.ca c)) u = some b) ∧ Q (.bl b) H
theorem cr_isx : CallR X (.builtin "isinstance") (rIsx X.K) := by
  intro pins s σ H xs us Q I r h
  obtain ⟨R, B, n, c, fs, v, cv, L, b, rfl, hr, hC, hk, q⟩ := h
  obtain ⟨u1, u2, rfl, r1, r2⟩ := vals2 r
  simp only [Rep] at hr
  obtain ⟨rfl, a, dd, xs, rfl, e, nb, hx, hd⟩ := hr
  obtain ⟨ox, od, J, _⟩ := exn_at I e hd
  cases r1
  exact PySem.W.kia_one (PySem.W.g_kit hC) I.kIn ⟨ox, od, J⟩ (hk _ r2) (fun z => nomatch z) fun tk => ⟨.bl _, H, I.tok tk, rfl, q⟩
def rIsxQ (R : Rn) (sub : Nat → List Nat) (t : Ty) : V → Hp → VK → Prop := fun x H Q => ∃ (B : Addr → Prop) (n c : Nat) (fs : List D) (L : List Addr) (b : Bool), Rep R H B n (.exn c fs) x L ∧ isxD sub t (.exn c fs) = some (.bl b) ∧ Q (.bl b) H
theorem isxD_exn {t : Ty} {a d : D} (h : isxD sub t a = some d) : ∃ c fs, a = .exn c fs := by
  cases a with
  | exn c fs => exact ⟨c, fs, rfl⟩
  | _ => simp [isxD] at h
theorem attD_exn {tbl : List (Nat × Nat)} {a d : D} (h : attD tbl a = some d) : ∃ c fs, a = .exn c fs := by
  cases a with
  | exn c fs => exact ⟨c, fs, rfl⟩
  | _ => simp [attD] at h
theorem at_isx {t : Ty} {x : V} {Q : VK} (h : At R σ e H Ls F sub (.isx t) [x] Q) : rIsxQ R sub t x H Q := by
  obtain ⟨n, a, v, L, d, hv, r, hk, hf, k, g⟩ := at_1 (fun _ => rfl) h
  cases hv
  obtain ⟨c, fs, rfl⟩ := isxD_exn hf
  have key : ∃ b, d = .bl b := by
    unfold isxD at hf
    simp only at hf
    split at hf
    · split at hf
      · exact ⟨_, (Option.some.inj hf).symm⟩
      · cases hf
    · split at hf
      · exact ⟨_, (Option.some.inj hf).symm⟩
      · cases hf
    · cases hf
  obtain ⟨b, rfl⟩ := key
  exact ⟨_, n, c, fs, L, b, r, hf, k.bl g⟩
theorem isx_kit {K : PySem.W.Frag} {ca : Nat → Addr} {cf : Nat → List Str} {t : Ty} {c : Nat} {fs : List D} {b : Bool} (T : XT K ca cf sub) (h : isxD sub t (.exn c fs) = some (.bl b)) {g : Cg} (hg : g.R.ca = ca) : ExcC K (ca c) ∧ ∀ u, RelV (clsV g t) u → PySem.W.kitOne K (.ref (ca c)) u = some b := by
  unfold isxD at h
  simp only at h
  split at h
  · split at h
    · rename_i hz
      cases h
      refine ⟨T.ec c hz.1, fun u r => ?_⟩
      simp only [clsV, hg] at r
      cases r
      exact T.is c _ hz.1 hz.2
    · cases h
  · split at h
    · rename_i hz
      cases h
      refine ⟨T.ec c hz, fun u r => ?_⟩
      cases r
      exact T.ve c hz
    · cases h
  · cases h
section
variable {p pos p2 : Pos} {a b : Expr} {as : List Expr} {x : E} {t : Ty} {k : Nat} {f z : Str}
theorem jc_cls {C : Addr} (hR : g.R.ca k = C) (hm : X.mg z = some (.ref C)) (hg : Gl X z) (hd : (z == ("__debug__" : Str)) = false := by decide) : PE X (.Name z p) (tC (clsV g (.cls k))) := by
  subst hR
  exact pe_glob hg hm (v := .ref (g.R.ca k)) rfl hd
theorem jc_ve (hm : X.mg "ValueError" = none) (hg : Gl X "ValueError") : PE X (.Name "ValueError" p) (tC (clsV g .ve)) := pe_bltn hg hm (by rfl) (by rfl)
theorem je_isx (T : XT X.K g.R.ca g.R.cf g.sub) (hg : Gl X "isinstance") (hm : X.mg "isinstance" = none) (ha : JE g X a x) (ht : PE X b (tC (clsV g t))) (z : Pl1 X pos a [b] := by exact {}) (z2 : starEach [b] X.env = (false, eval b X.env) :: starEach [] X.env := by rfl) :
    JE g X (.Call (.Name "isinstance" p) [a, b] [] pos) (.b (.isx t) (.cons x .nil)) :=
  .of ((pe_callB cr_isx hg hm (by rfl) (pa_cons ha.plc (pa_cons ht pa_nil z2) z.he) (by decide) (by decide) z.he z.hpl).imp fun σ H Q h => by
    refine tP_mono (b1_run (r := rIsxQ g.R g.sub t) at_isx h) fun v H1 q => ?_
    obtain ⟨B, n, c, fs, L, b, r, h1, q⟩ := q
    obtain ⟨h2, h3⟩ := isx_kit T h1 (g := g) rfl
    exact ⟨g.R, B, n, c, fs, v, _, L, b, rfl, r, h2, h3, q⟩) (fun _ => rfl) rfl fun _ => rfl

/-! ### an attribute -/
def rAtt (K : PySem.W.Frag) (R : Rn) (f : Str) : V → Hp → VK → Prop := fun x H Q => ∃ (B : Addr → Prop) (c : Nat) (a d : Addr) (v : V), x = .ref a ∧ H a = some (ExG (R.ca c) a (some d)) ∧ R.cf c = [f] ∧ ¬ B d ∧ H d = some (.xd [(f, v)]) ∧ OexC K (R.ca c) ∧ ExcC K (R.ca c) ∧ PySem.W.findIn K (.ref (R.ca c)) f = some none ∧ Q v H
theorem pe_att {ta : TE} (ha : PE X a ta) (hb : attributeBase a f X.env (eval a X.env) = eval a X.env := by rfl) : PE X (.Attribute a f pos) (fun σ H Q => ta σ H fun x H1 => rAtt X.K R f x H1 Q) := by
  refine ⟨fun pins s σ H Q I h => attr_of hb (thn (ha.run pins s σ H _ I h) fun u s1 hh => ?_)⟩
  obtain ⟨x, H1, I1, rx, B, c, a, d, v, rfl, ha', hc, nb, hd, _, C, no, q⟩ := hh
  obtain rfl : u = Value.ref a := rx
  obtain ⟨ox, od, J, hk⟩ := exn_at (R := R) (B := B) (xs := [v]) (n := 1) I1 ha' ⟨by rw [hc]; rfl, .inr ⟨d, rfl, nb, by rw [hc]; exact hd⟩⟩
  obtain ⟨mA, o, rfl, hns, hr, hl⟩ := hk d rfl
  have hlk : ((R.cf c).zip [v]).lookup f = some v := by rw [hc]; simp [List.lookup]
  obtain ⟨u, hu, ru⟩ := RelO.some_of (v := v) (o := mA f) (by rw [← hlk]; exact hr f)
  exact PySem.HandSPX.exc_get I1.kIn J C.hg C.hk C.hs (PySem.W.findObj_own C.hd no rfl (by rw [hl, hu])) (handed_of ru) ⟨v, H1, I1.tok _, ru, q⟩
theorem at_att {tbl : List (Nat × Nat)} {K : PySem.W.Frag} {x : V} {Q : VK} (T : XT K R.ca R.cf sub) (ht : ∀ c i, tbl.lookup c = some i → (sub c).isEmpty = false ∧ R.cf c = [f] ∧ i = 0) (h : At R σ e H Ls F sub (.att tbl) [x] Q) : rAtt K R f x H Q := by
  obtain ⟨n, a, v, L, d, hv, r, hk, hf, k, g⟩ := at_1 (fun _ => rfl) h
  cases hv
  obtain ⟨c, fs, rfl⟩ := attD_exn hf
  unfold attD at hf
  simp only at hf
  split at hf
  · rename_i i hi
    obtain ⟨h1, h2, rfl⟩ := ht c i hi
    simp only [Rep] at r
    obtain ⟨rfl, a, dd, xs, rfl, e1, nb, hr, hd⟩ := r
    obtain ⟨hl, hd⟩ := hd
    rw [h2] at hl hd
    obtain ⟨d0, rfl⟩ : ∃ d0, fs = [d0] := by
      match fs, hl with
      | [d0], _ => exact ⟨d0, rfl⟩
    cases hf
    obtain ⟨v, vs, rfl, r1, r2⟩ := hr.uncons
    simp only [Reps] at r2
    obtain ⟨rfl, _⟩ := r2
    rcases hd with ⟨z, _⟩ | ⟨d', rfl, nd, hq⟩
    · cases z
    · exact ⟨_, c, a, d', v, rfl, e1, h2, nd, hq, T.ox c h1, T.ec c h1, T.no c f h1 (by rw [h2]; exact List.mem_singleton.mpr rfl), k.val g r1⟩
  · cases hf
theorem je_att {tbl : List (Nat × Nat)} (T : XT X.K g.R.ca g.R.cf g.sub) (ht : ∀ c i, tbl.lookup c = some i → (g.sub c).isEmpty = false ∧ g.R.cf c = [f] ∧ i = 0) (ha : JE g X a x) (hb : attributeBase a f X.env (eval a X.env) = eval a X.env := by rfl)
    (hp : PlainT X (.Attribute a f pos) := by exact fun _ => rfl) : JE g X (.Attribute a f pos) (.b (.att tbl) (.cons x .nil)) :=
  .of ((pe_att (R := g.R) ha.plc hb).imp fun σ H Q h => b1_run (r := rAtt X.K g.R f) (at_att T ht) h) (fun _ => rfl) rfl hp
end
end
end G

set_option maxHeartbeats 400000
/-! G.Exn2: errors made: C(e), C(f = e), as a value or to be raised. -/
namespace PySem.HandSPX
open Builtin Builtin.ObjectAttr
section
variable {M : Model} {kw : List (Str × Value)} {prog : Program} {w : World} {A : Around} {E : Value → Shared → Prop} {R : Result → Shared → Prop} {h : Heap} {g : Array GenState} {d : Drawn} {t : Nat} {os : OsState}
variable {nm q : Str} {C N : Addr} {bs bm bmB : List Value} {hdct : Bool} {sn : List Str} {sub : List Value} {ab : Bool} {col : Option Bool} {dd : Option Addr} {k0 k1 k2 k3 k5 : Option Value} {B newId initId : String}
theorem k_check (F : ExcBaseFacts B newId initId bmB) (hT : ∀ X : String, bm.contains (.type X) = bmB.contains (.type X)) {Q : Unit → Shared → Prop}
    (hC : h.get? C = some (excClassObj nm q C N bs bm hdct sn sub ab col dd k0 k1 k2 k3 k5 newId)) (hq : Q () ⟨h, g, d, t, os⟩) : wpAny M A (checkBuiltinCall newId ⟨[.ref C], kw⟩) Q E ⟨h, g, d, t, os⟩ := by
  have hcb : (Value.ref C :: bm).contains (.type B) = true := by rw [List.contains_cons, hT, F.hasB, Bool.or_true]
  have hst := F.noStar
  simp only [checkBuiltinCall, F.newKind, F.newSplit, F.newRow]
  repeat (first | refine wpAny_loadPart_at hC ?_ | (refine wpAny_isSubtype_exc hC ?_; rw [hcb]) | refine wpAny_staticBase_exc hC ?_ | refine wpAny_madeBy_exc hC ?_ | simp only [bne_self_eq_false, Bool.false_eq_true, if_false] | wp_step)
  exact hq
/-- the error that BaseException.__new__ lays: its empty args, itself -/
abbrev kH (h : Heap) (C : Addr) : Heap := (h.push (W.kdv_tup [])).push (excO C h.objs.size)
theorem k_new (F : ExcBaseFacts B newId initId bmB) (hT : ∀ X : String, bm.contains (.type X) = bmB.contains (.type X)) (hC : h.get? C = some (excClassObj nm q C N bs bm hdct sn sub ab col dd k0 k1 k2 k3 k5 newId))
    (hq : R (.ok (.ret (.ref (h.objs.size + 1)))) ⟨kH h C, g, d, t, os⟩) : codeAny (model prog w) A (.builtin newId ⟨[.ref C], kw⟩) R ⟨h, g, d, t, os⟩ := by
  have f0 := F.ends
  have m1 : (Value.ref C :: bm).contains (.type B) = true := by rw [List.contains_cons, hT, F.hasB, Bool.or_true]
  have m2 : (Value.ref C :: bm).contains (.type "AttributeError") = false := by rw [List.contains_cons, hT, F.noAttr]; rfl
  have m3 : (Value.ref C :: bm).contains (.type "NameError") = false := by rw [List.contains_cons, hT, F.noName]; rfl
  have hrest : ([] : List Value).length ≤ sizeLine := Nat.zero_le _
  refine codeAny_builtinAt F.entry ?_
  unfold Builtin.«BaseException.__new__»
  refine wpAt_bind ?_
  show wpAt _ _ _ (stack >>= _) _ _ _
  refine wpAt_bind (wpAt_stack fun p below => wpAt_of_wpAny ?_)
  wp_walk
  refine wpAt_of_wpAny ?_
  rw [F.owner]
  repeat (first | with_reducible refine wpAny_madeHere_exc F.canon hC ?_ | with_reducible refine wpAny_loadPart_at hC ?_ | (with_reducible refine wpAny_isSubtype_exc hC ?_; first | rw [m1] | rw [m2] | rw [m3]) | wp_step)
  show R _ _
  rw [Heap.size_push]
  exact hq
theorem k_tc (F : ExcBaseFacts B newId initId bmB) (hT : ∀ X : String, bm.contains (.type X) = bmB.contains (.type X)) {fI : Addr} {Q : Fin → Shared → Prop} (hC : h.get? C = some (excClassObj nm q C N bs bm hdct sn sub ab col dd k0 k1 k2 k3 k5 newId))
    (hi : W.Looks (model prog w) h (typeLookup (.ref C) "__init__") (some (.ref fI))) (hb : ∀ self, W.Looks (model prog w) h (bindSpecial (.ref fI) self) (.ref fI, [self]))
    (hq : codeAny (model prog w) A (.call (.ref fI) ⟨[.ref (h.objs.size + 1)], kw⟩) (fun r s' => match r with | .ok (.ret v) => v = .none ∧ Q (.done (.ret (.ref (h.objs.size + 1)))) s' | .ok _ => False | .error e => E e s') ⟨kH h C, g, d, t, os⟩) :
    wpAny (model prog w) A (Builtin.«type.__call__» ⟨[.ref C], kw⟩) Q E ⟨h, g, d, t, os⟩ := by
  repeat (first | with_reducible refine wpAny_loadPart_at hC ?_ | with_reducible refine wpAny_madeBy_exc hC ?_ | wp_step)
  refine codeAny_call_builtin_code (Code.quiet_builtin _ F.quiet) (k_check F hT hC (k_new F hT hC ?_))
  show wpAny _ _ _ _ _ _
  have kk : ∀ b o, h.get? b = some o → (kH h C).get? b = some o := fun b o e => Heap.get?_push_of_some _ (Heap.get?_push_of_some _ e)
  have hC' := kk _ _ hC
  have hx : (kH h C).get? (h.objs.size + 1) = some (excO C h.objs.size) := by heap_get
  have hcc : (Value.ref C :: bm).contains (.ref C) = true := by simp
  have j1 := hi.keeps kk
  have j2 := (hb (.ref (h.objs.size + 1))).keeps kk
  unfold isInstance
  repeat (first | with_reducible refine wpAny_loadPart_at hx ?_ | (with_reducible refine wpAny_isSubtype_exc hC' ?_; rw [hcc]) | wp_step)
  show wpAny _ _ (typeLookup (.ref C) _) _ _ _
  refine j1.at (wpAny_holding (wpAny_bind (j2.at (wpAny_bind (wpAny_call (codeAny_mono hq fun r s' z => ?_))))))
  rcases r with e | (v | _ | _ | _) <;> first | exact z | exact z.elim | skip
  obtain ⟨rfl, z⟩ := z
  first
    | exact wpAny_pure (wpAny_pure z)
    | (wp_walk; exact z)
theorem k_tcc {Q : Unit → Shared → Prop} (hC : h.get? C = some (excClassObj nm q C N bs bm hdct sn sub ab col dd k0 k1 k2 k3 k5 newId)) (hq : Q () ⟨h, g, d, t, os⟩) : wpAny M A (checkBuiltinCall "type.__call__" ⟨[.ref C], kw⟩) Q E ⟨h, g, d, t, os⟩ := by
  have f3 := tc_sub
  have hTy : (⟨h, g, d, t, os⟩ : Shared).TypeIs (.ref C) "type" := ⟨_, hC, rfl⟩
  simp only [checkBuiltinCall, tc_kind, tc_split]
  repeat (any_goals (first | assumption | with_reducible refine wpAny_loadPart_at hC ?_ | with_reducible refine wpAny_onRaise ?_ | with_reducible refine wpAny_map ?_ | wp_step))
theorem k_call (F : ExcBaseFacts B newId initId bmB) (hT : ∀ X : String, bm.contains (.type X) = bmB.contains (.type X)) {fI : Addr} (hC : h.get? C = some (excClassObj nm q C N bs bm hdct sn sub ab col dd k0 k1 k2 k3 k5 newId))
    (hi : W.Looks (model prog w) h (typeLookup (.ref C) "__init__") (some (.ref fI))) (hb : ∀ self, W.Looks (model prog w) h (bindSpecial (.ref fI) self) (.ref fI, [self]))
    (hq : codeAny (model prog w) (A.under (.builtin "type.__call__" ⟨[.ref C], kw⟩)) (.call (.ref fI) ⟨[.ref (h.objs.size + 1)], kw⟩) (W.InitBack (h.objs.size + 1) R) ⟨kH h C, g, d, t, os⟩) :
    codeAny (model prog w) A (.call (.ref C) ⟨[], kw⟩) R ⟨h, g, d, t, os⟩ := by
  have f1 := tc_lookup
  have f2 := tc_bind (.ref C)
  have hTy : (⟨h, g, d, t, os⟩ : Shared).TypeIs (.ref C) "type" := ⟨_, hC, rfl⟩
  refine codeAny_of_tree ?_
  show wpAny _ _ (callAny (.ref C) _) _ _ _
  repeat (any_goals (first | assumption | with_reducible refine wpAny_loadPart_at hC ?_ | wp_step))
  refine ⟨rfl, codeAny_call_builtin_at (Code.quiet_builtin _ (by decide +kernel)) entry_typeCall (k_tcc hC (k_tc F hT hC hi hb (codeAny_mono hq fun r s' z => ?_)))⟩
  rcases r with e | (v | _ | _ | _) <;> exact z
end
end PySem.HandSPX

set_option maxHeartbeats 400000
/-! G.Exn3: an error's __init__; errors made. -/
namespace L2
open PySem PySem.Spec PyProof.Rows
section
variable {X : Cx} {pins : List (Addr × Obj)} {σ : St} {H : Hp} {s : Shared} {a C dx : Addr} {f : Str} {y : V} {u : Value} {fs : List (Str × V)} {E : Value → Shared → Prop} {A : Around}
/-- what is tracked is told otherwise: the object stays -/
theorem Inv.retell {o o' : HO} {b : Addr} (I : Inv X pins σ H s) (ho : H b = some o) (mu : Mut (some o)) (hx : ∃ w, s.heap.get? b = some w) (new : ObjOk X.prog X.w (upd H b o') s.heap b o') : Inv X pins σ (upd H b o') s := by
  have J := I.write (x := b) (e := b) (o := o') (h' := s.heap) (t' := s.toks) (by rw [ho]; exact mu) (.inl rfl) (fun _ _ _ q => q) hx new
  exact J
theorem ost_x (T : OexC X.K C) (I : Inv X pins σ H s) (e : H a = some (exo a C none)) (hno : PySem.W.findIn X.K (.ref C) f = some none) (ry : RelV y u) {Q : Unit → Shared → Prop}
    (h : ∀ dx s', H dx = none → dx ≠ a → Inv X pins σ (upd (upd H dx (.xd [(f, y)])) a (exo a C (some dx))) s' → Q () s') : wpAny (model X.prog X.w) A (setAttr (.ref a) f u) Q E s := by
  refine ost_new T I e hno ry fun dx s' hn ne J => h dx s' hn ne ?_
  have e1 : upd (upd H dx (exd dx [(f, y)])) a (exo a C (some dx)) dx = some (exd dx [(f, y)]) := by rw [upd_ne ne, upd_same]
  obtain ⟨mA, hns, rel⟩ := exd_at J.hok e1
  have K := J.retell (o' := .xd [(f, y)]) e1 True.intro (by obtain ⟨o, _, _, q, _⟩ := hns; exact ⟨o, q⟩) ⟨mA, hns, rel⟩
  have eq : upd (upd (upd H dx (exd dx [(f, y)])) a (exo a C (some dx))) dx (.xd [(f, y)]) = upd (upd H dx (.xd [(f, y)])) a (exo a C (some dx)) := by
    funext b
    by_cases h1 : b = dx
    · rw [h1, upd_same, upd_ne ne, upd_same]
    · rw [upd_ne h1]
      by_cases h2 : b = a
      · rw [h2, upd_same, upd_same]
      · rw [upd_ne h2, upd_ne h1, upd_ne h2, upd_ne h1]
  rw [eq] at K
  exact K
/-- self.f = e -/
def tOstX (K : PySem.W.Frag) (f : Str) (to te : TE) : TS := fun D σ H => te σ H fun y H1 => to σ H1 fun x H2 => ∃ a C : Addr, x = .ref a ∧ OexC K C ∧ PySem.W.findIn K (.ref C) f = some none ∧ H2 a = some (exo a C none) ∧ ∀ dx, H2 dx = none → dx ≠ a → D.nx σ (upd (upd H2 dx (.xd [(f, y)])) a (exo a C (some dx)))
theorem ps_ostX {o e : Expr} {to te : TE} {p' pos : Pos} (ho : PE X o to) (he : PE X e te) (hs : swapsWith e (some (.Attribute o f p')) pos.line X.env = pure false := by rfl) : PS X (.Assign [.Attribute o f p'] e pos) (tOstX X.K f to te) := by
  refine ⟨fun pins s σ H D I h => ?_⟩
  refine plainObj_wpAny_Assign_Attribute (thn (he.run pins s σ H _ I h) fun v s1 ⟨y, H1, I1, r1, q1⟩ => thn (ho.run pins s1 σ H1 _ I1 q1) fun u s2 ⟨x, H2, I2, r2, a, C, ex, T, hno, ea, q⟩ => ?_) hs
  subst ex
  obtain rfl : u = Value.ref a := r2
  exact ost_x T I2 ea hno r1 fun dx s' n ne J => ⟨σ, _, J, q dx n ne⟩
/-- what the text says of the base class: its __init__ is ValueError's -/
structure BaseI (K : PySem.W.Frag) (C : Addr) : Prop where
  ga : PySem.W.specialIn K (.ref C) "__getattribute__" = some (some (.builtin "type.__getattribute__"))
  rd : PySem.W.readsIn K C (.type "type") = true
  at_ : PySem.W.findCls K (.ref C) (.type "type") "__init__" = some (.val (.builtin "ValueError.__init__"))
/-- Base.__init__(self, ..) -/
theorem pe_oinit {x : Str} {pl : Sem Bool} {e : Expr} {es : List Expr} {ta : TA} {p1 p2 pos : Pos} (hg : Gl X x) (hm : X.mg x = some (.ref C)) (B : BaseI X.K C) (ha : PA X (e :: es) ta) (hdb : (x == ("__debug__" : Str)) = false := by decide)
    (hc : eval (.Call (.Attribute (.Name x p1) "__init__" p2) (e :: es) [] pos) X.env = (do
      let ov ← eval (.Name x p1) X.env
      standAt p2.atName
      let (f, first) ← holding [ov] (getMethod ov "__init__" pl)
      callWith pos f first (backTo pos (starEach (e :: es) X.env)) (backToKw pos (keywordEach [] X.env))) := by rfl)
    (he : starEach (e :: es) X.env = (false, eval e X.env) :: starEach es X.env := by rfl) (hpl : (backTo pos (starEach es X.env)).any (·.1) = false := by rfl) :
    PE X (.Call (.Attribute (.Name x p1) "__init__" p2) (e :: es) [] pos) (tVeI X.K ta) := by
  refine ⟨fun pins s σ H Q I h => PySem.W.methodCall_KW (ld_glob I hg hm ?_ hdb) hc⟩
  refine PySem.W.method_cls I.kIn B.ga (PySem.W.cls_value I.kIn B.rd B.at_ (by decide) ?_)
  show wpAny _ _ (callWith pos (Value.builtin "ValueError.__init__") [] (backTo pos (starEach (e :: es) X.env)) []) _ _ _
  refine PyProof.Rows.callWith_method1 (thn (ha.run pos pins _ σ H _ (I.tok _) h) fun us s1 ⟨vs, H1, I1, r1, a, C', ws, ev, hl, T, ea, q⟩ => ?_) he hpl
  subst ev
  cases r1 with
  | @cons _ u0 _ ur ra rr =>
    obtain rfl : u0 = Value.ref a := ra
    exact oinit_ok T I1 ea (by rw [← Paired.length rr, sizeLine_eq]; omega) fun s' J => ⟨.non, H1, J, rfl, q⟩
end
/-- __init__(self, f): Base.__init__(self, ..); self.f = f -/
def spX (C : Addr) (f : Str) : Sp := fun vs H Q _ => ∃ a y, vs = [.ref a, y] ∧ H a = some (exo a C none) ∧ ∀ d, H d = none → d ≠ a → Q .non (upd (upd H d (.xd [(f, y)])) a (exo a C (some d)))
/-- __init__(self): Base.__init__(self, ..) -/
def spX0 (C : Addr) : Sp := fun vs H Q _ => ∃ a, vs = [.ref a] ∧ H a = some (exo a C none) ∧ Q .non H

/-! ### made -/
/-- behind C(..): the error stands at a, all else as it was -/
structure MadeX (X : Cx) (pins : List (Addr × Obj)) (σ : St) (C : Addr) (H1 : Hp) (s : Shared) (P : Addr → Hp → Prop) (u : Value) (s' : Shared) : Prop where
  ex : ∃ (a : Addr) (H2 : Hp) (hp2 : Heap), u = .ref a ∧ H1 a = none ∧ Inv X pins σ H1 s ∧ s.heap.objs.size ≤ a ∧ (∀ b o, s.heap.get? b = some o → hp2.get? b = some o) ∧ Inv X pins σ (upd H1 a (exo a C none)) { s with heap := hp2 } ∧
    Un (frs X.stack) [] (upd H1 a (exo a C none)) H2 hp2 s'.heap ∧ HOk X.prog X.w H2 s'.heap ∧ s'.os = s.os ∧ AllBare s'.gens ∧ P a H2
section
variable {X : Cx} {pins : List (Addr × Obj)} {σ : St} {H1 : Hp} {s : Shared} {C fI : Addr} {k : Nat} {fd : FuncData} {ps : List Str} {sp : Sp} {P : Addr → Hp → Prop} {us : List Value} {vs : List V} {kw : List (Str × Value)}
theorem made_tail {hp : Heap} {g : Array GenState} {dr : Drawn} {tk : Nat} {os : OsState} {A : Around} (F1 : FnOk X.prog X.w X.K X.mg X.base CX0 k fI fd ps sp) (hr : Room k A) (I1 : Inv X pins σ H1 ⟨hp, g, dr, tk, os⟩) {hp2 : Heap} (k2 : ∀ b o, hp.get? b = some o → hp2.get? b = some o)
    (hx : ∃ t1 : Addr, hp2.get? (hp.objs.size + 1) = some ({ cls := .ref C, dict := none, data := .fields #[.ref t1, .none, .none, .none, .bool false, .none] } : Obj)) (e0 : ∀ I2 : Inv X pins σ (upd H1 (hp.objs.size + 1) (exo (hp.objs.size + 1) C none)) ⟨hp2, g, dr, tk, os⟩, Env0 X.prog X.w X.K X.mg X.base A X.stack ⟨hp2, g, dr, tk, os⟩ (upd H1 (hp.objs.size + 1) (exo (hp.objs.size + 1) C none)))
    {args : Args} (hb : X.K.In hp2 → BindsTo ⟨hp2, g, dr, tk, os⟩ fd args (ps.zip (.ref (hp.objs.size + 1) :: us))) (r1 : Vals vs us)
    (q : ∀ a, H1 a = none → sp (.ref a :: vs) (upd H1 a (exo a C none)) (fun v H2 => v = .non ∧ P a H2) fun _ _ _ => False) {Q : Value → Shared → Prop}
    (h : ∀ u s', MadeX X pins σ C H1 ⟨hp, g, dr, tk, os⟩ P u s' → Q u s') :
    codeAny (model X.prog X.w) A (.call (.ref fI) args) (PySem.W.InitBack (hp.objs.size + 1) fun r s' => match r with | .ok (.ret v) => Q v s' | .ok _ => False | .error e => X.xe e s') ⟨hp2, g, dr, tk, os⟩ := by
  obtain ⟨t1, hx⟩ := hx
  have hsz : hp.objs.size ≤ hp.objs.size + 1 := Nat.le_succ _
  have hn : H1 (hp.objs.size + 1) = none := I1.hok.fresh hsz
  have I2 : Inv X pins σ (upd H1 (hp.objs.size + 1) (exo (hp.objs.size + 1) C none)) ⟨hp2, g, dr, tk, os⟩ := I1.laid (t' := tk) (a := hp.objs.size + 1) (o := exo (hp.objs.size + 1) C none) (h' := hp2) k2 hsz (exo_ok hx)
  refine codeAny_mono (F1.run A X.stack ⟨hp2, g, dr, tk, os⟩ _ args (.ref (hp.objs.size + 1) :: us) (.ref (hp.objs.size + 1) :: vs) _ (fun _ _ _ => False) hr (e0 I2) (hb I2.kIn) (.cons rfl r1) (q _ hn)) fun r s' hq => ?_
  cases r with
  | error e => exact False.elim hq
  | ok fl =>
    cases fl with
    | ret u =>
      obtain ⟨v, H2, os2, bare2, un2, hok2, rv, ev, p⟩ := hq
      subst ev
      exact ⟨rv, h _ _ ⟨_, H2, hp2, rfl, hn, I1, hsz, k2, I2, un2, hok2, os2, bare2, p⟩⟩
    | next => exact False.elim hq
    | brk => exact False.elim hq
    | cont => exact False.elim hq
/-- C(e, ..) -/
theorem made_pos (T : OexC X.K C) (iC : PySem.W.findIn X.K (.ref C) "__init__" = some (some (.ref fI))) (tI : PySem.W.typeIn X.K (.ref fI) = some (.type "function")) (F1 : FnOk X.prog X.w X.K X.mg X.base CX0 k fI fd ps sp) (hr : Room (k + 1) X.A) (hb : Binds X.K fd ps [])
    (I1 : Inv X pins σ H1 s) (r1 : Vals vs us) (hl : vs.length ≤ 1000) (q : ∀ a, H1 a = none → sp (.ref a :: vs) (upd H1 a (exo a C none)) (fun v H2 => v = .non ∧ P a H2) fun _ _ _ => False) {Q : Value → Shared → Prop}
    (h : ∀ u s', MadeX X pins σ C H1 s P u s' → Q u s') : wpAny (model X.prog X.w) X.A (call (.ref C) us) Q X.xe s := by
  obtain ⟨nm, qn, N, bs, bm, sn, sub, ab, col, dd, k0, k1, k2, k3, k5, hC, hbm⟩ := T.cls
  obtain ⟨hp, g, dr, tk, os⟩ := s
  have hus : us.length ≤ sizeLine := by
    rw [← Paired.length r1, sizeLine_eq]
    omega
  have hl2 : (Value.ref (hp.objs.size + 1) :: us ++ []).length = ps.length := by
    have hn : H1 (hp.objs.size + 1) = none := I1.hok.fresh (Nat.le_succ _)
    have := F1.len _ _ _ _ (q _ hn)
    rw [List.append_nil, List.length_cons, ← r1.length]
    exact this
  refine wpAny_call (PySem.HandSPX.call_own F.excBase_ValueError (fun Y => PySem.HandSPX.refsVE_contains Y bm hbm) (I1.kIn _ _ hC) (PySem.W.looks_findIn I1.kIn iC) (fun self => PySem.W.bind_fn I1.kIn self tI) hus
    (made_tail F1 (hr.make C us []) I1 (fun b o e => Heap.get?_push_of_some _ (Heap.get?_push_of_some _ e)) ⟨hp.objs.size, by heap_get⟩ (fun I2 => I2.env0.make C us []) (fun hk => ?_) r1 q h))
  have := hb ⟨_, g, dr, tk, os⟩ (Value.ref (hp.objs.size + 1) :: us) hk hl2
  rw [List.append_nil] at this
  exact this
/-- C(f = e, ..) -/
theorem made_kw (T : OexC X.K C) (iC : PySem.W.findIn X.K (.ref C) "__init__" = some (some (.ref fI))) (tI : PySem.W.typeIn X.K (.ref fI) = some (.type "function")) (F1 : FnOk X.prog X.w X.K X.mg X.base CX0 k fI fd ps sp) (hr : Room (k + 1) X.A)
    {p : Str} (hps : ps = [("self" : Str), p]) (hb : ∀ (s : Shared) (u w : Value), BindsTo s fd ⟨[u], [(p, w)]⟩ [("self", u), (p, w)]) {y : V} {w : Value}
    (I1 : Inv X pins σ H1 s) (r1 : RelV y w) (q : ∀ a, H1 a = none → sp [.ref a, y] (upd H1 a (exo a C none)) (fun v H2 => v = .non ∧ P a H2) fun _ _ _ => False) {Q : Value → Shared → Prop}
    (h : ∀ u s', MadeX X pins σ C H1 s P u s' → Q u s') : wpAny (model X.prog X.w) X.A (call (.ref C) [] [(p, w)]) Q X.xe s := by
  obtain ⟨nm, qn, N, bs, bm, sn, sub, ab, col, dd, k0, k1, k2, k3, k5, hC, hbm⟩ := T.cls
  obtain ⟨hp, g, dr, tk, os⟩ := s
  subst hps
  refine wpAny_call (PySem.HandSPX.k_call F.excBase_ValueError (fun Y => PySem.HandSPX.refsVE_contains Y bm hbm) (I1.kIn _ _ hC) (PySem.W.looks_findIn I1.kIn iC) (fun self => PySem.W.bind_fn I1.kIn self tI)
    (made_tail (us := [w]) F1 (hr.make C [] [(p, w)]) I1 (fun b o e => Heap.get?_push_of_some _ (Heap.get?_push_of_some _ e)) ⟨hp.objs.size, by heap_get⟩ (fun I2 => I2.env0.make C [] [(p, w)]) (fun hk => hb _ _ _) (.cons r1 .nil) q h))
end
end L2

set_option maxHeartbeats 400000
/-! G.Exn4: errors made, as values, to be raised. -/
namespace L2
open PySem PySem.Spec PyProof.Rows
section
variable {X : Cx} {pins : List (Addr × Obj)} {σ : St} {H1 : Hp} {s : Shared} {C fI : Addr} {k : Nat} {fd : FuncData} {ps : List Str} {sp : Sp} {P : Addr → Hp → Prop}
/-- an error made is a value -/
theorem MadeX.val {u : Value} {s' : Shared} {Q : VK} (m : MadeX X pins σ C H1 s P u s') (h : ∀ a H2, H1 a = none → P a H2 → ∃ d, H2 a = some (exo a C d) ∧ Q (.ref a) (upd H2 a (G.ExG C a d))) : EP X pins σ Q u s' := by
  obtain ⟨a, H2, hp2, rfl, hn, I1, ha, k, I2, un, hok, os, bare, p⟩ := m
  obtain ⟨d, e, q⟩ := h a H2 hn p
  have J : Inv X pins σ H2 s' := I2.call' (s' := s') (ch := []) os un hok bare fun b z => absurd z (by simp)
  obtain ⟨t1, ho⟩ := exo_at J.hok e
  have J2 := J.retell (o' := G.ExG C a d) e True.intro ⟨_, ho⟩ ⟨⟨_, _, ho, rfl, rfl, rfl⟩, ⟨_, ho⟩, fun _ _ ⟨o, v, q, r⟩ k => ⟨o, v, k o q, r⟩⟩
  exact ⟨.ref a, _, J2, rfl, q⟩
/-- .. or to be raised -/
theorem MadeX.rse {u : Value} {s' : Shared} {Q : XK} (T : OexC X.K C) (m : MadeX X pins σ C H1 s P u s') (h : ∀ a H2, H1 a = none → P a H2 → ∃ d, H2 a = some (exo a C d) ∧ Q (.ref C) d (del H2 a)) : MkP X pins σ Q u s' := by
  obtain ⟨a, H2, hp2, rfl, hn, I1, ha, k, I2, un, hok, os, bare, p⟩ := m
  obtain ⟨d, ea, q⟩ := h a H2 hn p
  obtain ⟨t0, hoe⟩ := exo_at hok ea
  obtain ⟨G, g1, g2⟩ := restrict s'.heap fun b => decide (b ≠ a)
  have gk : ∀ b, b ≠ a → G.get? b = s'.heap.get? b := fun b hb => g1 b (decide_eq_true hb)
  have ge : G.get? a = none := g2 a (by simp)
  have na : ∀ {b : Addr} {o : Obj}, s.heap.get? b = some o → b ≠ a := fun {b o} z => Nat.ne_of_lt (Nat.lt_of_lt_of_le (Heap.lt_size z) ha)
  have up : ∀ {b : Addr}, b ≠ a → H1 b = none → upd H1 a (exo a C none) b = none := fun {b} hb n => by rw [upd_ne hb]; exact n
  have uq : ∀ {b : Addr} {o : HO}, H1 b = some o → upd H1 a (exo a C none) b = some o := fun {b o} z => by rw [upd_ne (ne_of_none z hn)]; exact z
  have U : Un (frs X.stack) [] H1 (del H2 a) s.heap G := {
    keep := fun b o z n hf hx => (gk b (na z)).trans (un.keep b o (k b o z) (up (na z) n) hf hx)
    slot := fun b o z n hf hx => by
      obtain ⟨sl, e⟩ := un.slot b o (k b o z) (up (na z) n) hf hx
      exact ⟨sl, (gk b (na z)).trans e⟩
    free := fun b o z n hx => (del_ne (na z)).trans (un.free b o (k b o z) (up (na z) n) hx)
    there := fun b o z hx => by
      obtain ⟨o', e⟩ := un.there b o (k b o z) hx
      exact ⟨o', (gk b (na z)).trans e⟩
    tups := fun b xs z => (del_ne (ne_of_none z hn)).trans (un.tups b xs (uq z))
    frzs := fun b o v z => (del_ne (ne_of_none z hn)).trans (un.frzs b o v (uq z))
    tbls := fun b ps z => by
      obtain ⟨m, e⟩ := un.tbls b ps (uq z)
      exact ⟨m, (del_ne (ne_of_none z hn)).trans e⟩ }
  have hok3 : HOk X.prog X.w (del H2 a) G := fun b o z => by
    have hba : b ≠ a := fun e => by rw [e, del_same] at z; cases z
    rw [del_ne hba] at z
    have noa : ∀ {c : Addr}, H2 c = some (.own b) → c ≠ a := fun {c} hc => at_ne ea hc exo_own
    exact (hok b o z).stay (fun c v hc y => (gk c (by
        rcases hc with hc | hc
        · rw [hc]; exact hba
        · exact noa hc)).trans y) (fun c hc => (del_ne (noa hc)).trans hc) fun c xs hc => (del_ne (at_ne ea hc exo_tup)).trans hc
  have J : Inv X pins σ (del H2 a) { s' with heap := G } := I1.call' (s' := { s' with heap := G }) (ch := []) os U hok3 bare fun b z => absurd z (by simp)
  refine ⟨a, _, _, { s' with heap := G }, del H2 a, .ref C, d, rfl, J, fun b o z => ?_, ge, hoe, ⟨rfl, rfl⟩, rfl, rfl, del_same, rfl, bare, raises_own T.exC T.tyC, q⟩
  by_cases hba : b = a
  · have z' : G.get? b = some o := z
    rw [hba, ge] at z'
    cases z'
  · exact (gk b hba).symm.trans z
/-- what the text says of a class of errors and its __init__ -/
structure MkC (P : Program) (w : World) (K : PySem.W.Frag) (mg : Str → Option Value) (base : Heap) (C fI : Addr) (k : Nat) (fd : FuncData) (ps : List Str) (sp : Sp) : Prop where
  T : OexC K C
  iC : PySem.W.findIn K (.ref C) "__init__" = some (some (.ref fI))
  tI : PySem.W.typeIn K (.ref fI) = some (.type "function")
  F1 : FnOk P w K mg base CX0 k fI fd ps sp
  hb : Binds K fd ps []
abbrev MkX (X : Cx) := MkC X.prog X.w X.K X.mg X.base
/-- C(e), as a value -/
def tXv (C : Addr) (f : Str) (ta : TA) : TE := fun σ H Q => ta σ H fun vs H1 => ∃ y, vs = [y] ∧ ∀ a d, H1 a = none → H1 d = none → d ≠ a → Q (.ref a) (upd (upd H1 d (.xd [(f, y)])) a (G.ExG C a (some d)))
def tXm (C : Addr) (f : Str) (ta : TA) : St → Hp → XK → Prop := fun σ H Q => ta σ H fun vs H1 => ∃ y, vs = [y] ∧ ∀ d, H1 d = none → Q (.ref C) (some d) (upd H1 d (.xd [(f, y)]))
variable {x f : Str} {e : Expr} {es : List Expr} {ta : TA} {te : TE} {p pos kp : Pos}
theorem upd_twc {H : Hp} {a : Addr} {o o' : HO} : upd (upd H a o) a o' = upd H a o' := by
  funext b
  by_cases h : b = a
  · rw [h, upd_same, upd_same]
  · rw [upd_ne h, upd_ne h, upd_ne h]
theorem upd_swap {H : Hp} {a b : Addr} {o o' : HO} (h : a ≠ b) : upd (upd H a o) b o' = upd (upd H b o') a o := by
  funext c
  by_cases h1 : c = b
  · rw [h1, upd_same, upd_ne (Ne.symm h), upd_same]
  · rw [upd_ne h1]
    by_cases h2 : c = a
    · rw [h2, upd_same, upd_same]
    · rw [upd_ne h2, upd_ne h2, upd_ne h1]
theorem del_upd {H : Hp} {a : Addr} {o : HO} (h : H a = none) : del (upd H a o) a = H := by
  funext b
  by_cases e : b = a
  · rw [e, del_same, h]
  · rw [del_ne e, upd_ne e]
/-- what spX leaves -/
def PX (C : Addr) (f : Str) (y : V) (H1 : Hp) (a : Addr) (H2 : Hp) : Prop := ∃ d, H1 d = none ∧ d ≠ a ∧ H2 = upd (upd (upd H1 a (exo a C none)) d (.xd [(f, y)])) a (exo a C (some d))
theorem spX_of {y : V} {a : Addr} : spX C f [.ref a, y] (upd H1 a (exo a C none)) (fun v H2 => v = .non ∧ PX C f y H1 a H2) fun _ _ _ => False :=
  ⟨a, y, rfl, upd_same, fun d hd ne => ⟨rfl, d, by rw [upd_ne ne] at hd; exact hd, ne, rfl⟩⟩
theorem PX.val {y : V} {a : Addr} {H2 : Hp} {Q : VK} (hn : H1 a = none) (p : PX C f y H1 a H2) (h : ∀ a d, H1 a = none → H1 d = none → d ≠ a → Q (.ref a) (upd (upd H1 d (.xd [(f, y)])) a (G.ExG C a (some d)))) : ∃ d, H2 a = some (exo a C d) ∧ Q (.ref a) (upd H2 a (G.ExG C a d)) := by
  obtain ⟨d, hd, ne, rfl⟩ := p
  refine ⟨some d, upd_same, ?_⟩
  rw [upd_twc, upd_swap (Ne.symm ne), upd_twc]
  exact h a d hn hd ne
theorem PX.rse {y : V} {a : Addr} {H2 : Hp} {Q : XK} (hn : H1 a = none) (p : PX C f y H1 a H2) (h : ∀ d, H1 d = none → Q (.ref C) (some d) (upd H1 d (.xd [(f, y)]))) : ∃ d, H2 a = some (exo a C d) ∧ Q (.ref C) d (del H2 a) := by
  obtain ⟨d, hd, ne, rfl⟩ := p
  refine ⟨some d, upd_same, ?_⟩
  rw [upd_swap (Ne.symm ne), upd_twc, del_upd (by rw [upd_ne (Ne.symm ne)]; exact hn)]
  exact h d hd
theorem pe_xv {p₀ : Str} (M : MkX X C fI k fd [("self" : Str), p₀] (spX C f)) (hr : Room (k + 1) X.A) (hg : Gl X x) (hm : X.mg x = some (.ref C)) (ha : PA X (e :: es) ta) (hdb : (x == ("__debug__" : Str)) = false := by decide)
    (he : starEach (e :: es) X.env = (false, eval e X.env) :: starEach es X.env := by rfl) (hpl : (backTo pos (starEach es X.env)).any (·.1) = false := by rfl) : PE X (.Call (.Name x p) (e :: es) [] pos) (tXv C f ta) := by
  refine ⟨fun pins s σ H Q I h => wpAny_Call_Name_kw (ld_glob I hg hm ?_ hdb)⟩
  refine PySem.W.callWith_K (h₀ := X.base) I.ok.mod.kin M.T.kC (thn (ha.run pos pins s σ H _ I h) fun us s1 ⟨vs, H1, I1, r1, y, ev, q⟩ => ⟨I1.kIn, ?_⟩) he hpl
  subst ev
  exact made_pos (P := PX C f y H1) M.T M.iC M.tI M.F1 hr M.hb I1 r1 (by simp) (fun a _ => spX_of) fun u s' m => m.val fun a H2 hn p => p.val hn q
theorem pe_xk {f₀ : Str} (M : MkX X C fI k fd [("self" : Str), f₀] (spX C f)) (hk : ∀ (s : Shared) (u w : Value), BindsTo s fd ⟨[u], [(f₀, w)]⟩ [("self", u), (f₀, w)]) (hr : Room (k + 1) X.A) (hg : Gl X x) (hm : X.mg x = some (.ref C)) (ha : PE X e te) (hdb : (x == ("__debug__" : Str)) = false := by decide)
    (hall : (backToKw pos (keywordEach [⟨some f₀, e, kp⟩] X.env)).all (·.1.isSome) = true := by rfl) (hks : (backToKw pos (keywordEach [⟨some f₀, e, kp⟩] X.env)).filterMap (·.1) = [f₀] := by rfl)
    (hpl : ((backTo pos (starEach [] X.env)).any (·.1) || (backToKw pos (keywordEach [⟨some f₀, e, kp⟩] X.env)).any (·.1.isNone)) = false := by rfl) : PE X (.Call (.Name x p) [] [⟨some f₀, e, kp⟩] pos) (tXv C f (tCons te tNil)) := by
  refine ⟨fun pins s σ H Q I h => wpAny_Call_Name_kw (ld_glob I hg hm ?_ hdb)⟩
  refine PySem.W.callWith_KW0 (h₀ := X.base) I.ok.mod.kin M.T.kC hall ?_ hpl
  refine thn ((pk_cons (nm := some f₀) (kpos := kp) ha pk_nil).run pos pins s σ H _ I h) fun ws s2 ⟨zs, H2, I2, rz, y, ev, q2⟩ => ⟨I2.kIn, ?_⟩
  rw [hks]
  subst ev
  obtain ⟨w, rfl, rw'⟩ := vals1 rz
  exact made_kw (P := PX C f y H2) M.T M.iC M.tI M.F1 hr rfl hk I2 rw' (fun a _ => spX_of) fun u s' m => m.val fun a H2 hn p => p.val hn q2
theorem pmk_x {p₀ : Str} (M : MkX X C fI k fd [("self" : Str), p₀] (spX C f)) (hr : Room (k + 1) X.A) (hg : Gl X x) (hm : X.mg x = some (.ref C)) (ha : PA X (e :: es) ta) (hdb : (x == ("__debug__" : Str)) = false := by decide)
    (he : starEach (e :: es) X.env = (false, eval e X.env) :: starEach es X.env := by rfl) (hpl : (backTo pos (starEach es X.env)).any (·.1) = false := by rfl) : PMk X (.Call (.Name x p) (e :: es) [] pos) (tXm C f ta) := by
  intro pins s σ H Q I h
  refine wpAny_Call_Name_kw (ld_glob I hg hm ?_ hdb)
  refine PySem.W.callWith_K (h₀ := X.base) I.ok.mod.kin M.T.kC (thn (ha.run pos pins s σ H _ I h) fun us s1 ⟨vs, H1, I1, r1, y, ev, q⟩ => ⟨I1.kIn, ?_⟩) he hpl
  subst ev
  exact made_pos (P := PX C f y H1) M.T M.iC M.tI M.F1 hr M.hb I1 r1 (by simp) (fun a _ => spX_of) fun u s' m => m.rse M.T fun a H2 hn p => p.rse hn q
/-- C() -/
def PX0 (C : Addr) (H1 : Hp) (a : Addr) (H2 : Hp) : Prop := H2 = upd H1 a (exo a C none)
theorem pe_xv0 (M : MkX X C fI k fd ["self"] (spX0 C)) (hr : Room (k + 1) X.A) (hg : Gl X x) (hm : X.mg x = some (.ref C)) (hdb : (x == ("__debug__" : Str)) = false := by decide) :
    PE X (.Call (.Name x p) [] [] pos) (fun σ H Q => ∀ a, H a = none → Q (.ref a) (upd H a (G.ExG C a none))) := by
  refine ⟨fun pins s σ H Q I h => wpAny_Call_Name_kw (ld_glob I hg hm (PySem.W.callWith_K0 I.kIn M.T.kC ?_) hdb)⟩
  refine made_pos (us := []) (vs := []) (P := PX0 C H) M.T M.iC M.tI M.F1 hr M.hb I .nil (by simp) (fun a _ => ⟨a, rfl, upd_same, rfl, rfl⟩) fun u s' m => m.val fun a H2 hn p => ?_
  unfold PX0 at p
  subst p
  exact ⟨none, upd_same, by rw [upd_twc]; exact h a hn⟩
theorem pmk_x0 (M : MkX X C fI k fd ["self"] (spX0 C)) (hr : Room (k + 1) X.A) (hg : Gl X x) (hm : X.mg x = some (.ref C)) (hdb : (x == ("__debug__" : Str)) = false := by decide) : PMk X (.Call (.Name x p) [] [] pos) (fun σ H Q => Q (.ref C) none H) := by
  intro pins s σ H Q I h
  refine wpAny_Call_Name_kw (ld_glob I hg hm (PySem.W.callWith_K0 I.kIn M.T.kC ?_) hdb)
  refine made_pos (us := []) (vs := []) (P := PX0 C H) M.T M.iC M.tI M.F1 hr M.hb I .nil (by simp) (fun a _ => ⟨a, rfl, upd_same, rfl, rfl⟩) fun u s' m => m.rse M.T fun a H2 hn p => ?_
  unfold PX0 at p
  subst p
  exact ⟨none, upd_same, by rw [del_upd hn]; exact h⟩
end
end L2

set_option maxHeartbeats 400000
/-! G.Exn5: C(e) in the language; raise. -/
namespace G
open PySem L2 PyProof.Rows
section
variable {g : Cg} {X : Cx} {R : Rn} {W : WD} {σ : St} {e : Env} {H : Hp} {Ls : Nat → List Addr} {F : List Addr} {sub : Nat → List Nat}
theorem Good.newX {a d c : Addr} {f : Str} {v : V} {o : Option Addr} {l : List (Str × V)} (gd : Good R σ e H Ls F) (ha : H a = none) (hd : H d = none) (ne : d ≠ a) : Good R σ e (upd (upd H d (.xd l)) a (ExG c a o)) Ls F ∧ Step H (Bn R Ls F) (upd (upd H d (.xd l)) a (ExG c a o)) (Bn R Ls F) F := by
  obtain ⟨g1, s1⟩ := gd.newT (o := .xd l) hd
  obtain ⟨g2, s2⟩ := g1.newT (o := ExG c a o) (a := a) (by rw [upd_ne (Ne.symm ne)]; exact ha)
  exact ⟨g2, s1.trans s2 fun a z => z⟩
theorem not_bn {a : Addr} (gd : Good R σ e H Ls F) (ha : H a = none) : ¬ Bn R Ls F a := fun z => by
  obtain ⟨o, q⟩ := gd.has a z
  rw [ha] at q
  cases q
theorem mk_run1 {c : Nat} {f : Str} {y : E} {Q : VK} (hf : g.R.cf c = [f]) (h : tV g.R g.W (ev g.sub g.F (.mk c (.cons y .nil))).val σ H Q) :
    tXv (g.R.ca c) f (tCons (tP g.R g.W (plOf y (ev g.sub g.F y).val)) tNil) σ H Q := by
  have h1 := vl_run (T := fun vs H' => ∀ x, vs = [x] → ∀ a d, H' a = none → H' d = none → d ≠ a → Q (.ref a) (upd (upd H' d (.xd [(f, x)])) a (ExG (g.R.ca c) a (some d)))) h fun l e' vs H' H0 B0 Ls' F h st gd rp x ev a d ha hd ne => by
    subst ev
    obtain ⟨_, h2⟩ := tst_all h no_V
    obtain ⟨g2, s2⟩ := gd.newX (v := x) (f := f) (l := [(f, x)]) (c := g.R.ca c) (o := some d) ha hd ne
    have k := QK.of st h2
    refine k (.ref a) _ [] s2 g2 ?_
    simp only [Rep]
    have hl := rp.length
    have na := not_bn gd ha
    have nd := not_bn gd hd
    refine ⟨trivial, a, some d, [x], rfl, upd_same, na, rp.by s2 (fun _ z => nomatch z), by rw [hf]; simpa using hl, .inr ⟨d, rfl, nd, ?_⟩⟩
    rw [upd_ne ne, upd_same, hf]
    rfl
  exact tP_mono (tA_1 h1) fun x H1 z => ⟨x, rfl, z x rfl⟩
theorem mk_run0 {c : Nat} {Q : VK} (hf : g.R.cf c = []) (h : tV g.R g.W (ev g.sub g.F (.mk c .nil)).val σ H Q) : ∀ a, H a = none → Q (.ref a) (upd H a (ExG (g.R.ca c) a none)) := by
  have h1 := vl_run (T := fun vs H' => vs = [] → ∀ a, H' a = none → Q (.ref a) (upd H' a (ExG (g.R.ca c) a none))) h fun l e' vs H' H0 B0 Ls' F h st gd rp ev a ha => by
    subst ev
    obtain ⟨_, h2⟩ := tst_all h no_V
    have k := QK.of st h2
    obtain ⟨g2, s2⟩ := gd.newT (o := ExG (g.R.ca c) a none) ha
    refine k (.ref a) _ [] s2 g2 ?_
    simp only [Rep]
    have hl : 0 = (l.map (·.2)).length := rp.length
    exact ⟨trivial, a, none, [], rfl, upd_same, not_bn gd ha, rp.by s2 (fun _ z => nomatch z), by rw [hf]; exact hl, .inl ⟨hl.symm, rfl⟩⟩
  exact tA_nil h1 rfl
variable {C fI : Addr} {k c : Nat} {fd : FuncData} {x f : Str} {a : Expr} {y : E} {p p2 pos kp : Pos}
theorem je_mk1 {p₀ : Str} (hC : g.R.ca c = C) (hf : g.R.cf c = [f]) (M : MkX X C fI k fd [("self" : Str), p₀] (spX C f)) (hr : Room (k + 1) X.A) (hg : Gl X x) (hm : X.mg x = some (.ref C)) (ha : JE g X a y) (hdb : (x == ("__debug__" : Str)) = false := by decide) (z : Pl1 X pos a [] := by exact {}) :
    JE g X (.Call (.Name x p) [a] [] pos) (.mk c (.cons y .nil)) := by
  subst hC
  exact .of ((pe_xv M hr hg hm (pa_cons ha.plc pa_nil z.he) hdb z.he z.hpl).imp fun σ H Q h => mk_run1 hf h) (fun _ => rfl) rfl fun _ => rfl
theorem je_mkk {f₀ : Str} (hC : g.R.ca c = C) (hf : g.R.cf c = [f]) (M : MkX X C fI k fd [("self" : Str), f₀] (spX C f)) (hk : ∀ (s : Shared) (u w : Value), BindsTo s fd ⟨[u], [(f₀, w)]⟩ [("self", u), (f₀, w)]) (hr : Room (k + 1) X.A) (hg : Gl X x) (hm : X.mg x = some (.ref C)) (ha : JE g X a y) (hdb : (x == ("__debug__" : Str)) = false := by decide)
    (hall : (backToKw pos (keywordEach [⟨some f₀, a, kp⟩] X.env)).all (·.1.isSome) = true := by rfl) (hks : (backToKw pos (keywordEach [⟨some f₀, a, kp⟩] X.env)).filterMap (·.1) = [f₀] := by rfl)
    (hpl : ((backTo pos (starEach [] X.env)).any (·.1) || (backToKw pos (keywordEach [⟨some f₀, a, kp⟩] X.env)).any (·.1.isNone)) = false := by rfl) : JE g X (.Call (.Name x p) [] [⟨some f₀, a, kp⟩] pos) (.mk c (.cons y .nil)) := by
  subst hC
  exact .of ((pe_xk M hk hr hg hm ha.plc hdb hall hks hpl).imp fun σ H Q h => mk_run1 hf h) (fun _ => rfl) rfl fun _ => rfl
theorem je_mk0 (hC : g.R.ca c = C) (hf : g.R.cf c = []) (M : MkX X C fI k fd [("self" : Str)] (spX0 C)) (hr : Room (k + 1) X.A) (hg : Gl X x) (hm : X.mg x = some (.ref C)) (hdb : (x == ("__debug__" : Str)) = false := by decide) : JE g X (.Call (.Name x p) [] [] pos) (.mk c .nil) := by
  subst hC
  exact .of ((pe_xv0 M hr hg hm hdb).imp fun σ H Q h => mk_run0 hf h) (fun _ => rfl) rfl fun _ => rfl

/-! ### raise -/
theorem vlS_run {ma : M (List Pl)} {f : List (Nat × D) → M Fl} {D : Ends} {T : List V → Hp → Prop} (h : tS R W (mb ma fun ps => mb (vlPs ps) f) D σ H)
    (k : ∀ (l : List (Nat × G.D)) (e' : Env) (vs : List V) (H' H0 : Hp) (B0 : Addr → Prop) (Ls' : Nat → List Addr) (F : List Addr), (f l e').All (PostS R W H0 B0 F D) → Step H0 B0 H' (Bn R Ls' F) F → Good R σ e' H' Ls' F → Reps R H' (Bn R Ls' F) 0 (l.map (·.2)) vs [] → T vs H') : tA R W ma σ H T := by
  obtain ⟨e, Ls, F, G, h⟩ := h
  refine tA_then G h (fun _ _ z => err_S z) no_S fun ps e1 vs H1 Ls1 L1 h1 s1 g1 p1 => ?_
  obtain ⟨l, e2, Ls2, h2, g2, s2, r2⟩ := vlPs_all g1 p1 (all_mb.mp h1) no_S
  refine k l e2 vs H1 H (Bn R Ls F) Ls2 F h2 ⟨s1.ext, s1.frm, fun a z => ?_⟩ g2 r2
  rcases s2.bn a z with y | y
  · exact s1.bn a y
  · obtain ⟨o, q⟩ := g2.has a z
    rw [q] at y
    cases y
theorem js_rse1 {p₀ : Str} (C' : Cok X) (hC : g.R.ca c = C) (hf : g.R.cf c = [f]) (M : MkX X C fI k fd [("self" : Str), p₀] (spX C f)) (tk : Takes X (wX g.W)) (hr : Room (k + 1) X.A) (hg : Gl X x) (hm : X.mg x = some (.ref C)) (ha : JE g X a y) (hdb : (x == ("__debug__" : Str)) = false := by decide) (z : Pl1 X p2 a [] := by exact {}) :
    JS g X (.Raise (some (.Call (.Name x p) [a] [] p2)) none pos) (.rse c (.cons y .nil)) := by
  subst hC
  refine ⟨(ps_raise C'.calm tk (pmk_x M hr hg hm (pa_cons ha.plc pa_nil z.he) hdb z.he z.hpl)).imp fun D σ H h => ?_⟩
  have h1 := vlS_run (T := fun vs H' => ∀ x, vs = [x] → ∀ d, H' d = none → wX g.W (.ref (g.R.ca c)) (some d) σ (upd H' d (.xd [(f, x)]))) h fun l e' vs H' H0 B0 Ls' F h st gd rp x ev d hd => by
    subst ev
    obtain ⟨_, h2⟩ := tst_all h no_S
    obtain ⟨g2, s2⟩ := gd.newT (o := .xd [(f, x)]) hd
    have hl := rp.length
    exact ⟨_, h2 σ _ Ls' (st.trans s2 fun a z => z) g2 _ _ ⟨c, _, [x], rfl, rfl, rp.by s2 (fun _ z => nomatch z), by rw [hf]; simpa using hl, .inr ⟨d, rfl, not_bn gd hd, by rw [upd_same, hf]; rfl⟩⟩⟩
  exact tP_mono (tA_1 h1) fun x H1 z => ⟨x, rfl, z x rfl⟩
theorem js_rse0 (C' : Cok X) (hC : g.R.ca c = C) (hf : g.R.cf c = []) (M : MkX X C fI k fd [("self" : Str)] (spX0 C)) (tk : Takes X (wX g.W)) (hr : Room (k + 1) X.A) (hg : Gl X x) (hm : X.mg x = some (.ref C)) (hdb : (x == ("__debug__" : Str)) = false := by decide) :
    JS g X (.Raise (some (.Call (.Name x p) [] [] p2)) none pos) (.rse c .nil) := by
  subst hC
  refine ⟨(ps_raise C'.calm tk (pmk_x0 M hr hg hm hdb)).imp fun D σ H h => ?_⟩
  have h1 := vlS_run (T := fun vs H' => vs = [] → wX g.W (.ref (g.R.ca c)) none σ H') h fun l e' vs H' H0 B0 Ls' F h st gd rp ev => by
    subst ev
    obtain ⟨_, h2⟩ := tst_all h no_S
    have hl : 0 = (l.map (·.2)).length := rp.length
    exact ⟨_, h2 σ _ Ls' st gd _ _ ⟨c, _, [], rfl, rfl, rp, by rw [hf]; exact hl, .inl ⟨hl.symm, rfl⟩⟩⟩
  exact tA_nil h1 rfl
end
end G

set_option maxHeartbeats 400000
/-! G.Exn6: try .. except, the error caught kept as a datum. -/
namespace L2
open PySem PySem.Spec PyProof.Rows
section
variable {X : Cx} {pins : List (Addr × Obj)} {σ : St} {H : Hp} {s sI : Shared} {a : Addr} {o : HO} {oe : Obj} {vs : Array Value}
/-- an object that stands, ours and not tracked as yet, is tracked -/
theorem Inv.track (I : Inv X pins σ H s) (n0 : X.s_0.heap.get? a = none) (hn : H a = none) (he : s.heap.get? a = some oe) (hd : oe.data = .fields vs) (nL : a ≠ X.env.locals) (np : ∀ p ∈ X.pn ++ pins, p.1 ≠ a) (new : ObjOk X.prog X.w (upd H a o) s.heap a o) : Inv X pins σ (upd H a o) s := by
  refine ⟨I.ok, I.os, I.bare, ⟨I.base.keep, I.base.slot, fun b u e n hx => ?_, I.base.there, fun b xs e => ?_, fun b u v e => ?_, fun b ps e => ?_⟩, I.loc, I.cell, ?_, fun x c e => ?_, fun p hp => ?_, fun b u e => ?_, I.len⟩
  · rw [upd_ne fun z => by rw [z, n0] at e; cases e]
    exact I.base.free b u e n hx
  · have q := I.base.tups b xs e
    rw [upd_ne (ne_of_none q hn)]
    exact q
  · have q := I.base.frzs b u v e
    rw [upd_ne (ne_of_none q hn)]
    exact q
  · obtain ⟨m, q⟩ := I.base.tbls b ps e
    exact ⟨m, by rw [upd_ne (ne_of_none q hn)]; exact q⟩
  · rw [upd_ne (Ne.symm nL)]
    exact I.free
  · obtain ⟨v, o', q, z⟩ := I.cell x c e
    rw [upd_ne fun y => by
      rw [y, he] at q
      cases q
      rw [hd] at z
      cases z]
    exact I.freeC x c e
  · obtain ⟨h1, h2, h3⟩ := I.pin p hp
    exact ⟨h1, by rw [upd_ne (np p hp)]; exact h2, h3⟩
  · by_cases hb : b = a
    · subst hb
      rw [upd_same] at e
      cases e
      exact new
    · rw [upd_ne hb] at e
      exact (I.hok b u e).stay (fun c v _ q => q) (fun c q => by rw [upd_ne (ne_of_none q hn)]; exact q) fun c xs q => by rw [upd_ne (ne_of_none q hn)]; exact q
/-- the context of an except suite, the error tracked -/
abbrev Cx.suiteT (X : Cx) (a : Addr) (pn : List (Addr × Obj)) : Cx := { X with A := X.A.mark (some (.ref a)), calm := false, pn := pn, xe := fun _ _ => False }
theorem Cx.Ok.suiteT (ok : X.Ok) (a : Addr) (pn : List (Addr × Obj)) : (X.suiteT a pn).Ok :=
  ⟨ok.mod, ok.kind, ok.glob, ok.blt, ok.above, ok.inj, ok.has, ok.cab, (fun z => absurd (show false = true from z) Bool.false_ne_true), ok.frames, ok.stk, ok.exf, ok.bs, ok.bsz, ok.noex, ok.exfs, ok.funs, ok.frf⟩
theorem Inv.suiteT (I : Inv X pins σ H s) (a : Addr) : Inv (X.suiteT a (X.pn ++ pins)) [] σ H s :=
  ⟨I.ok.suiteT _ _, I.os, I.bare, I.base, I.loc, I.cell, I.free, I.freeC, fun p hp => I.pin p (by rw [List.append_nil] at hp; exact hp), I.hok, I.len⟩
theorem Inv.unsuiteT {pn' : List (Addr × Obj)} (I : Inv (X.suiteT a (X.pn ++ pins)) pn' σ H s) (ok : X.Ok) : Inv X pins σ H s :=
  ⟨ok, I.os, I.bare, I.base, I.loc, I.cell, I.free, I.freeC, fun p hp => I.pin p (List.mem_append_left _ hp), I.hok, I.len⟩
/-- where a new error stands, nothing stood at the entry -/
theorem sky_new {B : Heap} (I : Inv X pins σ H sI) (hex : X.ex = []) (nb : ∀ b o, sI.heap.get? b = some o → b ∉ frs X.stack → B.get? b = some o) (hB : B.get? a = none) (nf : a ∉ frs X.stack) : X.s_0.heap.get? a = none ∧ sI.heap.get? a = none := by
  have h1 : sI.heap.get? a = none := by
    cases e : sI.heap.get? a with
    | none => rfl
    | some o =>
      rw [nb a o e nf] at hB
      cases hB
  refine ⟨?_, h1⟩
  cases e : X.s_0.heap.get? a with
  | none => rfl
  | some o =>
    obtain ⟨o', q⟩ := I.base.there a o e (by rw [hex]; exact fun z => nomatch z)
    rw [h1] at q
    cases q
end
section
variable {X : Cx} {x n : Str} {c : Addr} {i : Nat} {body suite : List Stmt} {b₀ : Stmt} {np pos pos' : Pos} {tb : WX → TS} {ts : TS} {Wout : WX}
/-- what the clause wishes of an error of the body: is it of the class at c, the suite runs with it at a, tracked -/
def wTk (K : PySem.W.Frag) (c : Addr) (ts : Addr → St → Hp → Prop) (Wout : WX) : WX := fun cls d σ H =>
  ∃ C b, cls = .ref C ∧ PySem.W.exmOne K cls (.ref c) = some b ∧ (b = true → ∀ a, H a = none → ts a σ (upd H a (G.ExG C a d))) ∧ (b = false → Wout cls d σ H)
/-- behind the suite: what is wanted, the error's name gone -/
def EndsG (D : Ends) (i : Nat) : Ends := { nx := fun σ' H' => D.nx (σ'.set i none) H', rt := D.rt, bk := fun σ' H' => D.bk (σ'.set i none) H', ct := fun σ' H' => D.ct (σ'.set i none) H' }
theorem ps_tryT {nm : Option Str} (hs : X.stack = X.env :: X.outer) (hf : X.env.frame = some X.env.locals) (hex : X.ex = []) (hN : X.N.Nodup) (hnm : ∀ n, nm = some n → X.N[i]? = some n ∧ X.env.kindOf n = some .local) (hc : Names X x (.ref c)) (tk : Takes X Wout)
    (hb : ∀ (W : WX) (pn : List (Addr × Obj)) (xe : Value → Shared → Prop), Takes (X.tr pn xe) W → PassesOwn (model X.prog X.w) X.A X.env xe → PSs (X.tr pn xe) body (tb W))
    (hsu : ∀ (a : Addr) (pn : List (Addr × Obj)), PSs (X.suiteT a pn) (b₀ :: suite) ts) :
    PS X (.Try body [.ExceptHandler (some (.Name x np)) nm (b₀ :: suite) pos'] [] [] pos)
      (fun D σ H => tb (wTk X.K c (fun a σ H => match nm with | some _ => ts (EndsG D i) (σ.set i (some (.ref a))) H | none => ts D σ H) Wout) D σ H) := by
  refine ⟨fun pins s σ H D I h => ?_⟩
  have ok := I.ok
  have hfr : X.A.frames = some (X.env :: X.outer) := by rw [ok.frames, hs]
  refine wpAny_Try_except ?_
  refine wpAny_mono ((hb _ (X.pn ++ pins) (fun e s₁ => wpAny (model X.prog X.w) X.A (noteFrame e X.env) (fun _ s₂ => wpAny (model X.prog X.w) X.A (setFlight e none) (fun _ s₃ =>
    wpAny (model X.prog X.w) X.A (handleBy e X.env [.ExceptHandler (some (.Name x np)) nm (b₀ :: suite) pos']) (SP X pins D) X.xe s₃) X.xe s₂) X.xe s₁) (fun u s' xx => ?_) PassesOwn.looking).run [] s σ H D (I.toTry _) h) (fun f s1 hsp => ?_) (fun e s1 he => he)
  · obtain ⟨a, B, sI, pins', σ', H', cls, d, rfl, J', nb, up, sky, na, os, ag, C, b, rfl, hb1, hyes, hno⟩ := xx
    have J : Inv X pins σ' H' sI := J'.ofTry ok
    have sky' : Sky B (X.env :: X.outer) a (Zc (.ref C) d) X.env.locals s'.heap := by rw [← hs]; exact sky
    show wpAny (model X.prog X.w) X.A (noteFrame (.ref a) X.env) _ _ _
    refine Sky.land Zc.steady hfr hf sky' fun h3 fl3 up3 => ?_
    have J3 : Inv X pins σ' H' { s' with heap := h3 } := J.landed nb fl3.1 (up.trans up3) os ag
    obtain ⟨oe3, vs3, he3, hz3, hd3⟩ := fl3.there
    have nfr : a ∉ frs (X.env :: X.outer) := fun hm => by
      obtain ⟨_, o', e', hnf⟩ := fl3.2.2.1.mem hm
      rw [he3] at e'
      cases e'
      exact hnf _ hd3
    have nL : a ≠ X.env.locals := fun z => nfr (List.mem_filterMap.mpr ⟨X.env, List.mem_cons_self, by rw [hf, z]⟩)
    obtain ⟨n0, nI⟩ := sky_new J hex nb fl3.2.1 (by rw [hs]; exact nfr)
    have npn : ∀ p ∈ X.pn ++ pins, p.1 ≠ a := fun p hp z => by
      have q := (J.pin p hp).1
      rw [z, nI] at q
      cases q
    refine wpAny_handleBy_cons (codeAny_handlers_test ?_) (by intro q; cases q)
    have LT : PySem.W.Looks (model X.prog X.w) h3 (typeOf (.ref a)) (.ref C) := fun A Q E s k q => wpAny_typeOf_ref (k _ _ he3) (by rw [hz3.1]; exact q)
    have LM := PySem.W.exm_one (M := model X.prog X.w) (J3.kIn) LT hb1
    have test : ∀ {Q : Value → Shared → Prop} {E : Value → Shared → Prop}, Q (.ref c) { s' with heap := h3 } → wpAny (model X.prog X.w) (X.A.mark (some (.ref a))) (eval (.Name x np) X.env) Q E { s' with heap := h3 } := fun {Q E} q => by
      obtain ⟨hg, hdbg, hm | ⟨hm, hv, hnn⟩⟩ := hc
      · exact ld_glob (X := X.suiteT a (X.pn ++ pins)) (J3.suiteT a) hg hm q hdbg
      · exact ld_blt (X := X.suiteT a (X.pn ++ pins)) (J3.suiteT a) hg hm hv q hnn hdbg
    refine test (LM.here ?_)
    cases b with
    | true =>
      have trk : ∀ h4, HandSPX.FlyingZ B (X.env :: X.outer) a (Zc (.ref C) d) h4 → h3.UpToSlots h4 → Inv X pins σ' (upd H' a (G.ExG C a d)) { s' with heap := h4 } := fun h4 fl4 up4 => by
        have J4 : Inv X pins σ' H' { s' with heap := h4 } := J.landed nb fl4.1 ((up.trans up3).trans up4) os ag
        obtain ⟨oe4, vs4, he4, hz4, hd4⟩ := fl4.there
        exact J4.track n0 na he4 hd4 nL npn ⟨⟨oe4, vs4, he4, hz4.1, hz4.2, hd4⟩, ⟨_, he4⟩, fun _ _ ⟨o, v, q, r⟩ k => ⟨o, v, k o q, r⟩⟩
      have hy := hyes rfl a na
      cases nm with
      | some n =>
        obtain ⟨hi, hln⟩ := hnm n rfl
        refine codeAny_handlers_suite_as ?_
        refine HandSPX.lands_againZ fl3 fun h4 fl4 up4 => ?_
        refine store_ok (X := X.suiteT a (X.pn ++ pins)) (v := .ref a) ((trk h4 fl4 up4).suiteT a) hN hi (.inl hln) rfl (fun s5 S5 => ?_) (.inr hln)
        refine wpAny_mono ((hsu a (X.pn ++ pins)).run [] s5 _ _ _ S5 hy) (fun f s6 hsp => ?_) (fun _ _ z => False.elim z)
        have end_ : ∀ {σ6 : St} {H6 : Hp} {Q : Shared → Prop}, Inv (X.suiteT a (X.pn ++ pins)) [] σ6 H6 s6 → (∀ s7, Inv X pins (σ6.set i none) H6 s7 → Q s7) →
            wpAny (model X.prog X.w) X.A (do bindName X.env n .none; unbindBehindTheSuite X.env n pos') (fun _ s7 => Q s7) X.xe s6 := fun {σ6 H6 Q} S6 hq => gone_ok (S6.unsuiteT ok) hN hi hln hq
        match f, hsp with
        | .next, ⟨σ6, H6, S6, q6⟩ => exact end_ S6 fun s7 J7 => ⟨_, _, J7, q6⟩
        | .brk, ⟨σ6, H6, S6, q6⟩ => exact end_ S6 fun s7 J7 => ⟨_, _, J7, q6⟩
        | .cont, ⟨σ6, H6, S6, q6⟩ => exact end_ S6 fun s7 J7 => ⟨_, _, J7, q6⟩
        | .ret u, ⟨v6, σ6, H6, S6, r6, q6⟩ => exact end_ S6 fun s7 J7 => ⟨_, _, _, J7, r6, q6⟩
      | none =>
        refine codeAny_handlers_suite ?_
        refine HandSPX.lands_againZ fl3 fun h4 fl4 up4 => ?_
        refine wpAny_mono ((hsu a (X.pn ++ pins)).run [] _ _ _ _ ((trk h4 fl4 up4).suiteT a) hy) (fun f s6 hsp => ?_) (fun _ _ z => False.elim z)
        match f, hsp with
        | .next, ⟨σ6, H6, S6, q6⟩ => exact ⟨_, _, S6.unsuiteT ok, q6⟩
        | .brk, ⟨σ6, H6, S6, q6⟩ => exact ⟨_, _, S6.unsuiteT ok, q6⟩
        | .cont, ⟨σ6, H6, S6, q6⟩ => exact ⟨_, _, S6.unsuiteT ok, q6⟩
        | .ret u, ⟨v6, σ6, H6, S6, r6, q6⟩ => exact ⟨_, _, _, S6.unsuiteT ok, r6, q6⟩
    | false =>
      show wpAny _ X.A (handleBy (.ref a) X.env []) _ _ _
      refine wpAny_handleBy_nil ?_
      obtain ⟨k1, k2, k3, oe, vs, T, oT, ts', he, hz, hd, h1, hr⟩ := id fl3
      unfold PySem.passOn
      refine wpAny_bind (wpAny_field he hd h1 ?_)
      rw [if_neg (show ¬ ((Value.ref T == Value.none) = true) from by simp)]
      have fin : wpAny (model X.prog X.w) X.A (setFlight (.ref a) X.env.frame) (fun _ s4 => wpAny (model X.prog X.w) X.A (throw (.ref a) : Sem Flow) (SP X pins D) X.xe s4) X.xe { s' with heap := h3 } := by
        rw [hf]
        refine HandSPX.setFlight_upZ fl3 fun h4 hh4 up4 => wpAny_throw (tk _ _ ⟨a, B, sI, pins, σ', H', .ref C, d, rfl, J, nb, (up.trans up3).trans up4, .inr (.inr (by rw [hs]; exact hh4)), na, os, ag, hno rfl⟩)
      first
        | exact wpAny_bind (wpAny_pure (wpAny_bind fin))
        | exact wpAny_bind fin
  · match f, hsp with
    | .next, ⟨σ', H', J', q⟩ => exact wpAny_execs_nil ⟨σ', H', J'.ofTry ok, q⟩
    | .brk, ⟨σ', H', J', q⟩ => exact ⟨σ', H', J'.ofTry ok, q⟩
    | .cont, ⟨σ', H', J', q⟩ => exact ⟨σ', H', J'.ofTry ok, q⟩
    | .ret u, ⟨v, σ', H', J', r, q⟩ => exact ⟨v, σ', H', J'.ofTry ok, r, q⟩
end
end L2

set_option maxHeartbeats 400000
/-! G.Exn7: try in the language. -/
namespace G
open PySem L2 PyProof.Rows
section
variable {g : Cg} {X : Cx} {R : Rn} {W : WD} {σ : St} {e : Env} {H : Hp} {Ls : Nat → List Addr} {F : List Addr} {sub : Nat → List Nat}
/-- no error leaves -/
abbrev wNoD : WD := fun _ _ _ _ _ => False
theorem calm_all {α : Type} {m : M α} {P : Rs α → Prop} (h : (calmM m e).All P) (hn : ¬ P .no) : (m e).All fun r => match r with | .ok a e' => P (.ok a e') | _ => False := by
  unfold calmM at h
  refine (Tr.all_bind.mp h).mono fun r hr => ?_
  match r, hr with
  | .ok a e', hr => exact hr
  | .err x e', hr => exact hn hr
  | .no, hr => exact hn hr
theorem wipe1 {i : Nat} : wipe σ [i] = σ.set i none := rfl
theorem wipeE1 {i : Nat} : wipeE [i] e = e.set i none := rfl
/-- behind a suite its name goes -/
theorem gone_run {i : Nat} {D : Ends} {H0 : Hp} {B0 : Addr → Prop} {r : Rs Fl} (h : (mk (fun f => mb (goneE (some i)) fun _ => pu f) r).All (PostS R W H0 B0 F D)) (hne : ∀ x e, r ≠ .err x e) : PostS R wNoD H0 B0 F (EndsG D i) r := by
  match r, h with
  | .ok .nx e', h =>
    intro σ' H' Ls' s g
    obtain ⟨g2, s2⟩ := g.forget (own := [i])
    rw [wipe1, wipeE1] at g2
    exact h _ _ _ (s.trans s2 fun a z => z) g2
  | .ok .bk e', h =>
    intro σ' H' Ls' s g
    obtain ⟨g2, s2⟩ := g.forget (own := [i])
    rw [wipe1, wipeE1] at g2
    exact h _ _ _ (s.trans s2 fun a z => z) g2
  | .ok .ct e', h =>
    intro σ' H' Ls' s g
    obtain ⟨g2, s2⟩ := g.forget (own := [i])
    rw [wipe1, wipeE1] at g2
    exact h _ _ _ (s.trans s2 fun a z => z) g2
  | .ok (.rt n d) e', h =>
    intro v σ' H' Ls' Lt s g rp
    obtain ⟨g2, s2⟩ := g.forget (own := [i])
    rw [wipe1, wipeE1] at g2
    exact h v _ _ _ Lt (s.trans (F1 := F) ⟨s2.ext, fun a z => rfl, s2.bn⟩ fun a z => z) g2 (rp.by s2 fun _ _ => rfl)
  | .err x e', h => exact absurd rfl (hne x e')
  | .no, h => exact h
theorem js_try {nm : Option Str} {o : Option Nat} {x : Str} {C : Addr} {c : Nat} {body suite : List Stmt} {b₀ : Stmt} {np pos pos' : Pos} {bs hs : Ss} (C' : Cok X) (T : XT X.K g.R.ca g.R.cf g.sub) (tk : Takes X (wX g.W)) (hC : g.R.ca c = C) (hg : Gl X x) (hm : X.mg x = some (.ref C))
    (hb : ∀ (W : WD) (pn : List (Addr × Obj)) (xe : Value → Shared → Prop), Takes (X.tr pn xe) (wX W) → PassesOwn (model X.prog X.w) X.A X.env xe → JSs { g with W := W } (X.tr pn xe) body bs)
    (hh : ∀ (a : Addr) (pn : List (Addr × Obj)), JSs { g with W := wNoD } (X.suiteT a pn) (b₀ :: suite) hs)
    (hnm : (nm = none ∧ o = none) ∨ ∃ n i, nm = some n ∧ o = some i ∧ X.N[i]? = some n ∧ X.env.kindOf n = some .local := by first | exact .inl ⟨rfl, rfl⟩ | exact .inr ⟨_, _, rfl, rfl, rfl, rfl⟩)
    (hst : X.stack = X.env :: X.outer := by rfl) (hf : X.env.frame = some X.env.locals := by rfl) (hex : X.ex = [] := by rfl) (hdb : (x == ("__debug__" : Str)) = false := by decide) :
    JS g X (.Try body [.ExceptHandler (some (.Name x np)) nm (b₀ :: suite) pos'] [] [] pos) (.try_ bs c o hs) := by
  subst hC
  refine ⟨(ps_tryT (i := o.getD 0) (tb := fun W => fun D σ H => ∃ Wd : WD, (∀ c d σ H, wX Wd c d σ H → W c d σ H) ∧ tS g.R Wd (evSs g.sub g.F bs) D σ H) (Wout := wX g.W) hst hf hex C'.nd (fun n e => ?_) ⟨hg, hdb, .inl hm⟩ tk (fun W pn xe tkW po => ?_) fun a pn => (hh a pn).run).imp fun D σ H z => ?_⟩
  · rcases hnm with ⟨h1, h2⟩ | ⟨n', i, h1, h2, h3, h4⟩
    · rw [h1] at e
      cases e
    · rw [h1] at e
      cases e
      rw [h2]
      exact ⟨h3, h4⟩
  · exact ⟨fun pins s σ H D I ⟨Wd, h1, h2⟩ => (hb Wd pn xe (tkW.imp h1) po).run.run pins s σ H D I h2⟩
  · obtain ⟨e, Ls, F, G, z⟩ := z
    have z : (evSs g.sub g.F bs e).All fun r => (tryK g.sub c o (evSs g.sub g.F hs) r).All (PostS g.R g.W H (Bn g.R Ls F) F D) := Tr.all_bind.mp z
    refine ⟨fun x cls dd σ' H' => ∃ e' Ls', Good g.R σ' e' H' Ls' F ∧ Step H (Bn g.R Ls F) H' (Bn g.R Ls' F) F ∧ XRep g.R H' (Bn g.R Ls' F) x cls dd ∧ (tryK g.sub c o (evSs g.sub g.F hs) (.err x e')).All (PostS g.R g.W H (Bn g.R Ls F) F D), ?_, e, Ls, F, G, z.mono fun r hr => ?_⟩
    · rintro cls dd σ' H' ⟨x, e', Ls', g', st, xr, h⟩
      obtain ⟨k, fs, vs, rfl, rfl, rp, xd⟩ := id xr
      unfold tryK at h
      simp only at h
      split at h
      · exact h.elim
      · rename_i hz
        simp only [Bool.or_eq_true, not_or, Bool.not_eq_true] at hz
        refine ⟨g.R.ca k, (g.sub k).contains c, rfl, T.ex k c hz.1 hz.2, fun hc a ha => ?_, fun hc => ?_⟩
        · rw [if_pos hc] at h
          obtain ⟨g2, s2⟩ := g'.newT (o := ExG (g.R.ca k) a dd) ha
          have nB := not_bn g' ha
          have rx : Rep g.R (upd H' a (ExG (g.R.ca k) a dd)) (Bn g.R Ls' F) 0 (.exn k fs) (.ref a) [] := by
            simp only [Rep]
            exact ⟨trivial, a, dd, vs, rfl, upd_same, nB, rp.by s2 (fun _ z => nomatch z), xd.step s2.ext s2.bn⟩
          have st2 := st.trans s2 fun a z => z
          rcases hnm with ⟨rfl, rfl⟩ | ⟨n, i, rfl, rfl, hi, hk⟩
          · have h : (mb (calmM (evSs g.sub g.F hs)) (fun f => mb (goneE none) fun _ => pu f) e').All (PostS g.R g.W H (Bn g.R Ls F) F D) := h
            have h2 := calm_all (all_mb.mp h) fun z => z
            refine ⟨e', Ls', F, g2, h2.mono fun r hr => ?_⟩
            match r, hr with
            | .ok .nx e2, hr => exact fun σ2 H2 L2 s g => hr σ2 H2 L2 (st2.trans s fun a z => z) g
            | .ok .bk e2, hr => exact fun σ2 H2 L2 s g => hr σ2 H2 L2 (st2.trans s fun a z => z) g
            | .ok .ct e2, hr => exact fun σ2 H2 L2 s g => hr σ2 H2 L2 (st2.trans s fun a z => z) g
            | .ok (.rt n d) e2, hr => exact fun v σ2 H2 L2 L s g x => hr v σ2 H2 L2 L (st2.trans s fun a z => z) g x
            | .err x e2, hr => exact hr.elim
            | .no, hr => exact hr
          · have h : (mb (setE i (0, .exn k fs)) (fun _ => mb (calmM (evSs g.sub g.F hs)) (fun f => mb (goneE (some i)) fun _ => pu f)) e').All (PostS g.R g.W H (Bn g.R Ls F) F D) := h
            obtain ⟨hl, h2⟩ := setE_all (all_mb.mp h) fun z => z
            obtain ⟨g3, s3⟩ := Good.put (Lt := []) g2 rx hl
            have h3 := calm_all (all_mb.mp h2) fun z => z
            refine ⟨_, _, F, g3, h3.mono fun r hr => ?_⟩
            have st3 := st2.trans s3 fun a z => z
            match r, hr with
            | .ok f e2, hr =>
              have k := gone_run (r := .ok f e2) hr fun _ _ z => nomatch z
              match f, k with
              | .nx, k => exact fun σ2 H2 L2 s g => k σ2 H2 L2 (st3.trans s fun a z => z) g
              | .bk, k => exact fun σ2 H2 L2 s g => k σ2 H2 L2 (st3.trans s fun a z => z) g
              | .ct, k => exact fun σ2 H2 L2 s g => k σ2 H2 L2 (st3.trans s fun a z => z) g
              | .rt n d, k => exact fun v σ2 H2 L2 L s g x => k v σ2 H2 L2 L (st3.trans s fun a z => z) g x
            | .err x e2, hr => exact hr.elim
            | .no, hr => exact hr
        · rw [if_neg (by rw [hc]; exact Bool.false_ne_true)] at h
          exact ⟨_, h σ' H' Ls' st g' _ _ xr⟩
    · match r, hr with
      | .ok .nx e2, hr => exact hr
      | .ok .bk e2, hr => exact hr
      | .ok .ct e2, hr => exact hr
      | .ok (.rt n d) e2, hr => exact hr
      | .err x e2, hr => exact fun σ' H' Ls' s g cls dd xr => ⟨e2, Ls', g, s, xr, hr⟩
      | .no, hr => exact hr
end
end G

set_option maxHeartbeats 400000
/-! G.Itr: enumerate of a list. -/
namespace G
open PySem L2 PyProof.Rows
section
variable {g : Cg} {X : Cx} {R : Rn} {W : WD} {σ : St} {e : Env} {H : Hp} {Ls : Nat → List Addr} {F : List Addr} {sub : Nat → List Nat}
theorem enumD_len {l : List D} : (enumD l).length = l.length := by simp [enumD]
theorem enumD_get {l : List D} {i : Nat} {x : D} (h : (enumD l)[i]? = some x) : ∃ y, l[i]? = some y ∧ x = .tup [.int (i : Int), y] := by
  unfold enumD at h
  rw [List.getElem?_map, Option.map_eq_some_iff] at h
  obtain ⟨p, hp, rfl⟩ := h
  rw [List.getElem?_zipIdx] at hp
  cases e : l[i]? with
  | none => rw [e] at hp; cases hp
  | some y =>
    rw [e] at hp
    cases hp
    exact ⟨y, rfl, by simp⟩
/-- a new pair -/
theorem rep_pair {B : Addr → Prop} {p : Addr} {x y : D} {v w : V} (hB : ∀ p, B p → ∃ o, H p = some o) (hp : H p = none) (hx : Rep R H B 0 x v []) (hy : Rep R H B 0 y w []) : Rep R (upd H p (.tup [v, w])) B 0 (.tup [x, y]) (.ref p) [] := by
  have st : ∀ {d : D} {u : V}, Rep R H B 0 d u [] → Rep R (upd H p (.tup [v, w])) B 0 d u [] := fun {d u} r =>
    Rep.step (fun b o q _ => by rw [upd_ne fun z => by rw [z, hp] at q; cases q]; exact q) (fun b h => .inl h) 0 d u [] (fun _ z => nomatch z) r
  simp only [Rep, Reps]
  exact ⟨p, [v, w], rfl, upd_same, fun z => (by obtain ⟨o, q⟩ := hB p z; rw [hp] at q; cases q), v, [w], [], [], rfl, rfl, st hx, w, [], [], [], rfl, rfl, st hy, rfl, rfl⟩
theorem it_enumL {K : PySem.W.Frag} {a : Addr} {xs : List D} {vs : List V} : ItOk R (Ite K a) (enumD xs) (TL R a xs vs) where
  stp := fun i H B t h => ⟨vs, .of t.1, by rw [t.2.2.length, ← enumD_len]; exact h⟩
  go := fun i H B x t h => by
    obtain ⟨y, hy, _⟩ := enumD_get h
    obtain ⟨v, hv, _⟩ := t.2.2.get hy
    exact ⟨vs, v, .of t.1, hv⟩
  yld := fun i H B x v H' t h hB y => by
    obtain ⟨d, hd, rfl⟩ := enumD_get h
    obtain ⟨u, hu, ru⟩ := t.2.2.get hd
    obtain ⟨T, w, rfl, hT, rfl, hy⟩ := y
    have := hy vs (.of t.1)
    rw [hu] at this
    cases this
    exact ⟨.inr ⟨T, _, hT, rfl⟩, rep_pair hB hT (by simp [Rep]) ru⟩
  stay := fun H B H' B' F t s => t.stay s
end
end G

set_option maxHeartbeats 1000000
/-! G.Itr2: enumerate of a tuple. -/
namespace L2
open PySem PySem.Spec PyProof.Rows
theorem enum_new1 {v : Value} {o : Obj} {Hc : Heap → Prop} (B : Begins v o Hc) :
    Meets (Builtin.«enumerate.__new__» ⟨[.type "enumerate", v], []⟩) (fun _ R s => Hc s.heap ∧
      R (.ok (.ret (.ref (s.heap.push o).objs.size))) { s with heap := (s.heap.push o).push { cls := .type "enumerate", data := .fields #[.none, .bool false, .ref s.heap.objs.size, rawInt 0, .none, .none] } }) :=
  .of_wp fun prog w A R s h => by
    obtain ⟨hp, gn, dr, tk, os⟩ := s
    obtain ⟨hB, hK⟩ := h
    have isE := sub_enumerate
    have it1 : ∀ {A' : Around} {E Q : Value → Shared → Prop}, Q (.ref hp.objs.size) ⟨hp.push o, gn, dr, tk, os⟩ → wpAny (model prog w) A' (pyIter v) Q E ⟨hp, gn, dr, tk, os⟩ := fun z => B.iter prog w _ _ ⟨hp, gn, dr, tk, os⟩ _ hB z
    wp_walk using it1
    refine wpAny_stack_any fun fr => wpAny_pure ?_
    split
    · rename_i c _ _ _ _ _
      cases (c == Value.type "enumerate") <;> (wp_walk using it1; exact ⟨_, rfl, hK⟩)
    · wp_walk using it1
      exact ⟨_, rfl, hK⟩
theorem begins_tup (l : Addr) (us : Array Value) : Begins (.ref l) { cls := .type "tuple_iterator", data := .fields #[.ref l, .int 0 0] } fun h => h.IsTuple l us := begins_tuple l us
section
variable {prog : Program} {w : World} {A : Around} {E : Value → Shared → Prop} {s : Shared}
theorem call_enum_tup {l : Addr} {us : Array Value} {Q : Value → Shared → Prop} (ht : s.heap.IsTuple l us)
    (k : ∀ h', IsEnum h' (s.heap.objs.size + 1) s.heap.objs.size 0 .none → h'.IsTupleIter s.heap.objs.size l 0 → (∀ b o, s.heap.get? b = some o → h'.get? b = some o) → Q (.ref (s.heap.objs.size + 1)) { s with heap := h' }) : wpAny (model prog w) A (call (.type "enumerate") [.ref l]) Q E s := by
  refine callType_new F.called_enumerate (by decide) (F.typeCall_enumerate_1 _) (F.newCall_enumerate_1 _) (fun ob => F.args_object_init_2 ob _) F.entry_enumerate_new (enum_new1 (begins_tup l us)) ⟨ht, ?_⟩
  generalize hG : s.heap.push { cls := .type "tuple_iterator", data := .fields #[.ref l, .int 0 0] } = G
  have zG : G.objs.size = s.heap.objs.size + 1 := by rw [← hG]; exact Heap.size_push ..
  have e1 : IsEnum (G.push { cls := .type "enumerate", data := .fields #[.none, .bool false, .ref s.heap.objs.size, rawInt 0, .none, .none] }) (s.heap.objs.size + 1) s.heap.objs.size 0 .none := by
    rw [← zG]
    exact Heap.get?_push_size G rfl
  show _ ∧ _
  rw [zG]
  refine ⟨⟨_, e1, rfl⟩, k _ e1 ⟨_, Heap.get?_push_of_some _ (by rw [← hG]; exact Heap.get?_push_size _ rfl), rfl, rfl⟩ fun b o q => Heap.get?_push_of_some _ (by rw [← hG]; exact Heap.get?_push_of_some _ q)⟩
end
section
variable {prog : Program} {w : World} {A : Around} {E : Value → Shared → Prop} {s : Shared}
theorem enumT_end {e it l : Addr} {us : Array Value} {i : Nat} {old : Value} {Q : Option Value → Shared → Prop} (hh : A.in1.handled = none) (he : IsEnum s.heap e it i old) (hit : s.heap.IsTupleIter it l i) (hl : s.heap.IsTuple l us) (hz : us.size ≤ i)
    (k : ∀ h', Heap.ExtBut it s.heap h' → Q none { s with heap := h' }) : wpAny (model prog w) A (pyNext (.ref e)) Q E s := by
  have isE : s.TypeIs (.ref e) "enumerate" := ⟨_, he, rfl⟩
  unfold pyNext
  refine wpAny_bind (wpAny_attempt ?_)
  refine wpAny_callSpecial?_slot (name := Str.ofString "__next__") isE F.slot_enumerate_next ?_
  refine wpAny_call_entry F.slot_enumerate_next isE F.entry_enumerate_next ?_ (F.args_enumerate_next_1 _)
  show wpAny (model prog w) _ (field (.ref e) 2 >>= _) _ _ _
  refine wpAny_bind (wpAny_field he rfl (x := .ref it) rfl (wpAny_bind (wpAny_nextOf_tuple_end hh hit hl (Array.getElem?_eq_none hz) fun h' x eb isX => ?_)))
  obtain ⟨ox, hox, hcx⟩ := isX
  exact wpAny_bind (wpAny_isInstance (T := "StopIteration") (b := true) ⟨ox, hox, hcx⟩ isSubtype_stop (wpAny_pure (k _ eb)))
end
/-- the tuple at a, each item in a new pair -/
def Itet (K : PySem.W.Frag) (a : Addr) : It :=
  ⟨fun i H => ∃ (xs : List V) (x : V), SqT K H a xs ∧ xs[i]? = some x, fun i H v H' => ∃ T x, v = .ref T ∧ H T = none ∧ H' = upd H T (.tup [.int (i : Nat), x]) ∧ ∀ xs, SqT K H a xs → xs[i]? = some x, fun i H => ∃ xs : List V, SqT K H a xs ∧ xs.length ≤ i⟩
theorem turn_enumT {P : Program} {w : World} {K : PySem.W.Frag} {elts : List Expr} {kk : Nat} {tpos : Pos} (a e it : Addr) :
    Turn P w K (.Tuple elts kk tpos) (Itet K a) [e, it] e (fun i h => (∃ old, IsEnum h e it ((i : Nat) : Int) old) ∧ h.IsTupleIter it a i ∧ e ≠ it) where
  mem := by simp
  obj := fun i h st b hb => by
    obtain ⟨⟨old, he⟩, ⟨o, ho, hc, hd⟩, _⟩ := st
    rcases (by simpa using hb : b = e ∨ b = it) with z | z
    · exact ⟨_, by rw [z]; exact he, fun v q => by cases q⟩
    · exact ⟨o, by rw [z]; exact ho, fun v q => by rw [hd] at q; cases q⟩
  keep := fun i h h' st k => let ⟨⟨old, he⟩, hi, hne⟩ := st; ⟨⟨old, k e (by simp) _ he⟩, hi.at fun o q => k it (by simp) o q, hne⟩
  item := by
    intro X hP hw hK hc i pins s σ H E I hf st hg
    subst hP hw hK
    obtain ⟨⟨old, he⟩, hit, hne⟩ := st
    obtain ⟨xs, x, hq, hx⟩ := hg
    obtain ⟨its, rv, hl, hz⟩ := I.tuple hq
    obtain ⟨u, hu, ru⟩ := rv.get hx
    have elt : e < s.heap.objs.size := Heap.lt_size he
    have ilt : it < s.heap.objs.size := by obtain ⟨_, q, _⟩ := hit; exact Heap.lt_size q
    have tlt : a ≠ it := fun z => by
      obtain ⟨o, q, c, _⟩ := hit
      obtain ⟨o2, q2, c2, _⟩ := hl
      rw [z, q] at q2
      cases q2
      rw [c] at c2
      exact absurd c2 (by decide)
    have tle : a ≠ e := fun z => by
      obtain ⟨o2, q2, c2, _⟩ := hl
      rw [z, show s.heap.get? e = _ from he] at q2
      cases q2
      have c2 : Value.type "enumerate" = Value.type "tuple" := c2
      exact absurd c2 (by decide)
    have D := Draws.tuple (prog := X.prog) (w := X.w) (A := X.A.in1) (show X.A.in1.handled = none from I.ok.hd hc) it a tlt its.toArray
    have hil : i < its.toArray.size := by
      obtain ⟨z, _⟩ := List.getElem?_eq_some_iff.mp hu
      simpa using z
    refine wpAny_pyNext_enum_itemC (c := (i : Int)) D he ⟨hit, hl⟩ hil hne (by simp [hne, Ne.symm tle]) fun y h' tk hP he' st' hT hsz hk => ?_
    have hy : u = y := by
      rw [List.getElem?_toArray, hu] at hP
      exact Option.some.inj hP
    subst hy
    refine ⟨_, rfl, wpAny_letOwnedTupleGo_enum (s := { s with heap := h', toks := tk + 1 }) he' fun h'' he2 sb => ?_⟩
    have hT2 : h''.get? s.heap.objs.size = some { cls := .type "tuple", data := .seq #[.int i tk, u] } := (sb.2 _ (Nat.ne_of_gt elt)).trans hT
    have new : ObjOk X.prog X.w (upd H s.heap.objs.size (.tup [.int (i : Nat), x])) h'' s.heap.objs.size (.tup [.int (i : Nat), x]) :=
      ⟨by show 2 ≤ sizeLine; decide, [.int i tk, u], .cons ⟨_, rfl⟩ (.cons ru .nil), ⟨_, hT2, rfl, _, rfl⟩⟩
    have I1 : Inv X pins σ (upd H s.heap.objs.size (.tup [.int (i : Nat), x])) { s with heap := h'', toks := tk + 1 } :=
      I.turnedNew (ch := [e, it]) (fun b ob hb q => (sb.2 b (fun z => hb (by simp [z]))).trans (hk b ob (fun z => hb (by simp [z])) (fun z => hb (by simp [z])) q)) hf (Nat.le_refl _) new
    refine ⟨.ref s.heap.objs.size, _, I1, rfl, ⟨_, x, rfl, I.hok.fresh (Nat.le_refl _), rfl, fun ys hy => ?_⟩, ⟨⟨u, ?_⟩, st'.1.at fun o q => (sb.2 it (Ne.symm hne)).trans q, hne⟩, fun b hb => ?_⟩
    · rw [I.tuple_inj hy hq]; exact hx
    · have e1 : ((i + 1 : Nat) : Int) = (i : Int) + 1 := by omega
      rw [e1]; exact he2
    · have hb' : b < s.heap.objs.size := by
        rcases (by simpa using hb : b = e ∨ b = it) with z | z
        · rw [z]; exact elt
        · rw [z]; exact ilt
      rw [upd_ne (Nat.ne_of_lt hb')]
      exact (hf b hb).1
  done := by
    intro X hP hw hK hc i pins s σ H E I hf st hg
    subst hP hw hK
    obtain ⟨⟨old, he⟩, hit, hne⟩ := st
    obtain ⟨xs, hq, hx⟩ := hg
    obtain ⟨its, rv, hl, hz⟩ := I.tuple hq
    obtain ⟨f0, f1, f2, f3, f4, f5⟩ := hf it (by simp)
    have ll := rv.length
    have tlt : a ≠ it := fun z => by
      obtain ⟨o, q, c, _⟩ := hit
      obtain ⟨o2, q2, c2, _⟩ := hl
      rw [z, q] at q2
      cases q2
      rw [c] at c2
      exact absurd c2 (by decide)
    refine enumT_end (show X.A.in1.handled = none from I.ok.hd hc) he hit hl (by simp; omega) fun h' eb => ⟨rfl, I.turned (t' := s.toks) (fun b o hb q => eb b o hb q) f0 f1 f3 f4 f5⟩
  self := fun A i s Q E st h => let ⟨⟨_, he⟩, _⟩ := st; wpAny_pyIter_enum he h
end L2
namespace L2
open PySem PySem.Spec PyProof.Rows
def iEnumT (K : PySem.W.Frag) (ta : TA) : TI := fun σ H R => ta σ H fun vs H1 => ∃ a xs, vs = [.ref a] ∧ ((SqL K H1 a xs ∧ R (Ite K a) H1) ∨ (SqT K H1 a xs ∧ R (Itet K a) H1))
/-- enumerate of a list or a tuple -/
theorem pi_enumA {X : Cx} {e : Expr} {ta : TA} {p pos tpos : Pos} {elts : List Expr} {kk : Nat} (hg : Gl X "enumerate") (hm : X.mg "enumerate" = none) (ha : PA X [e] ta) (hs : starEach [e] X.env = [(false, eval e X.env)] := by rfl) :
    PI X (.Tuple elts kk tpos) (.Call (.Name "enumerate" p) [e] [] pos) (iEnumT X.K ta) := by
  refine ⟨fun pins s σ H R I h => Call_ (ld_blt I hg hm boot_enumerate (PyProof.Rows.callWith_type1 (thn (ha.run pos pins s σ H _ I h) fun us s1 ⟨vs, H1, I1, r1, q1⟩ => ?_) hs rfl))⟩
  obtain ⟨a, xs, rfl, hq⟩ := q1
  rw [Vals.ref1 r1]
  have fin : ∀ b, b = s1.heap.objs.size + 1 ∨ b = s1.heap.objs.size → s1.heap.objs.size ≤ b := fun b z => by
    rcases z with z | z
    · rw [z]; exact Nat.le_add_right _ _
    · rw [z]; exact Nat.le_refl _
  rcases hq with ⟨hq, q⟩ | ⟨hq, q⟩
  · obtain ⟨its, rv, pl, hz⟩ := I1.list hq
    refine call_enumerate_list pl.isList fun h' he hit _ hk => wpAny_pyIter_enum he ?_
    have I2 : Inv X pins σ H1 { s1 with heap := h' } := I1.kept (t' := s1.toks) hk
    refine ⟨s1.heap.objs.size + 1, [s1.heap.objs.size + 1, s1.heap.objs.size], _, _, H1, rfl, I2, turn_enum a (s1.heap.objs.size + 1) s1.heap.objs.size, ⟨⟨.none, he⟩, hit, Nat.succ_ne_self _⟩, fun b hb => ?_, q⟩
    have hle := fin b (by simpa using hb)
    exact I1.fpOk hle (I1.hok.fresh hle)
  · obtain ⟨its, rv, pl, hz⟩ := I1.tuple hq
    refine call_enum_tup pl fun h' he hit hk => wpAny_pyIter_enum he ?_
    have I2 : Inv X pins σ H1 { s1 with heap := h' } := I1.kept (t' := s1.toks) hk
    refine ⟨s1.heap.objs.size + 1, [s1.heap.objs.size + 1, s1.heap.objs.size], _, _, H1, rfl, I2, turn_enumT a (s1.heap.objs.size + 1) s1.heap.objs.size, ⟨⟨.none, he⟩, hit, Nat.succ_ne_self _⟩, fun b hb => ?_, q⟩
    have hle := fin b (by simpa using hb)
    exact I1.fpOk hle (I1.hok.fresh hle)
end L2
namespace G
open PySem L2 PyProof.Rows
section
variable {g : Cg} {X : Cx} {R : Rn} {W : WD} {σ : St} {e : Env} {H : Hp} {Ls : Nat → List Addr} {F : List Addr} {sub : Nat → List Nat}
theorem it_enumT {K : PySem.W.Frag} {a : Addr} {xs : List D} {vs : List V} : ItOk R (Itet K a) (enumD xs) (TT' R a xs vs) where
  stp := fun i H B t h => ⟨vs, .of t.1, by rw [t.2.2.length, ← enumD_len]; exact h⟩
  go := fun i H B x t h => by
    obtain ⟨y, hy, _⟩ := enumD_get h
    obtain ⟨v, hv, _⟩ := t.2.2.get hy
    exact ⟨vs, v, .of t.1, hv⟩
  yld := fun i H B x v H' t h hB y => by
    obtain ⟨d, hd, rfl⟩ := enumD_get h
    obtain ⟨u, hu, ru⟩ := t.2.2.get hd
    obtain ⟨T, w, rfl, hT, rfl, hy⟩ := y
    have := hy vs (.of t.1)
    rw [hu] at this
    cases this
    exact ⟨.inr ⟨T, _, hT, rfl⟩, rep_pair hB hT (by simp [Rep]) ru⟩
  stay := fun H B H' B' F t s => t.stay s
theorem isem_enumA {ds xs : List D} (h : isem .enum ds = some xs) : ∃ l, (ds = [.lst l] ∨ ds = [.tup l]) ∧ xs = enumD l := by
  match ds, h with
  | [.lst l], h => exact ⟨l, .inl rfl, (Option.some.inj h).symm⟩
  | [.tup l], h => exact ⟨l, .inr rfl, (Option.some.inj h).symm⟩
theorem ji_enumA {a : Expr} {xs : Es} {p pos tpos : Pos} {elts : List Expr} {kk : Nat} (hg : Gl X "enumerate") (hm : X.mg "enumerate" = none) (ha : JA g X [a] xs) (hs : starEach [a] X.env = [(false, eval a X.env)] := by rfl) :
    JI g X (.Tuple elts kk tpos) (.Call (.Name "enumerate" p) [a] [] pos) .enum xs := (pi_enumA hg hm ha hs).imp fun σ H K z => itM_run z fun ds ys vs H' B hi rp hb k => by
  obtain ⟨l, hl, rfl⟩ := isem_enumA hi
  rcases hl with rfl | rfl
  · obtain ⟨v', vs', rfl, r1, r2⟩ := rp.uncons
    simp only [Reps] at r2
    obtain ⟨rfl, _⟩ := r2
    simp only [Rep] at r1
    obtain ⟨p, zs, rfl, e1, nb, _, q1⟩ := r1
    exact ⟨p, zs, rfl, .inl ⟨.of e1, k _ _ it_enumL ⟨e1, nb, q1⟩⟩⟩
  · obtain ⟨v', vs', rfl, r1, r2⟩ := rp.uncons
    simp only [Reps] at r2
    obtain ⟨rfl, _⟩ := r2
    simp only [Rep] at r1
    obtain ⟨p, zs, rfl, e1, nb, q1⟩ := r1
    exact ⟨p, zs, rfl, .inr ⟨.of e1, k _ _ it_enumT ⟨e1, nb, q1⟩⟩⟩
end
end G

set_option maxHeartbeats 400000
/-! G.Draw: defs by hand; the source of draws. -/
namespace G
open PySem L2 PyProof.Rows
section
variable {g : Cg} {X : Cx} {R : Rn} {W : WD} {σ : St} {e : Env} {H : Hp} {Ls : Nat → List Addr} {F : List Addr} {sub : Nat → List Nat}
/-- a def whose body is read by hand -/
theorem fnG_hand {P : Program} {w : World} {K : PySem.W.Frag} {mg : Str → Option Value} {base : Heap} {x qual : Str} {st : Stmt} {f : Addr} {fd : FuncData} {N ps : List Str} {k : Nat} {sp : Sp} (Fu : Fun K x qual st f fd) (S : FnScope N ps (defScope st)) (len : ∀ vs H Q E, sp vs H Q E → vs.length = ps.length)
    (hbody : ∀ (cdv : Value) (A : Around) (outer : List PySem.Env) (s : Shared) (H : Hp) (vs : List V) (Q : VK) (E : XK), Cok (cxOf (L2.CX P w) P w K mg base N qual (defScope st) f cdv A outer s H E) → Room k (A.deeper (envOfC qual (defScope st) s.heap.objs.size f cdv)) → sp vs H Q E →
      ∃ t, PSs (cxOf (L2.CX P w) P w K mg base N qual (defScope st) f cdv A outer s H E) (defBody st) t ∧ t { nx := fun _ H' => Q .non H', rt := Q } (L2.start N vs) H) : FnG P w K mg base (k + 1) f fd ps sp := by
  refine ⟨len, fun A outer s H args us vs Q E hr hgd e0 hb rv h => ?_⟩
  obtain ⟨oc, od, kV, doc, pm, an, cdv, ct, osl, rfl, lk, hcd⟩ := Fu.ex
  refine LamX.run_ofS lk hcd S hr e0 hb rv (len _ _ _ _ h) fun hr' => ?_
  have C : Cok (cxOf (L2.CX P w) P w K mg base N qual (defScope st) f cdv A outer s H E) := ⟨rfl, by have := hr'.un; show (A.deeper (envOfC qual (defScope st) s.heap.objs.size f cdv)).units + 200 < cLine; omega, hgd, S.nd, PassesOwn.leaving⟩
  exact hbody cdv A outer s H vs Q E C hr' h
theorem atI_0 {α : Type} {a : α} {l : List α} : atI (a :: l) 0 = some a := by simp [atI, ixN]
theorem atI_1 {α : Type} {a b : α} {l : List α} : atI (a :: b :: l) 1 = some b := by
  have h : ((1 : Int) < (l.length : Int) + 1 + 1) := by omega
  simp [atI, ixN, h]
theorem atI_2 {α : Type} {a b c : α} {l : List α} : atI (a :: b :: c :: l) 2 = some c := by
  have h : ((2 : Int) < (l.length : Int) + 1 + 1 + 1) := by omega
  simp [atI, ixN, h]
theorem atI_3 {α : Type} {a b c d : α} {l : List α} : atI (a :: b :: c :: d :: l) 3 = some d := by
  have h : ((3 : Int) < (l.length : Int) + 1 + 1 + 1 + 1) := by omega
  simp [atI, ixN, h]
theorem ixN_k {n k : Nat} (h : k < n) : ixN n (k : Int) = some k := by
  unfold ixN
  rw [if_pos (by omega), if_pos (by omega)]
  simp
/-- what a draw gives: any number below n -/
def drawF : Fn := fun ds => match ds with
  | [.rnd, .int n] => if 0 < n ∧ n < 1000000 then .ch n.toNat fun i => .ret (.ok false (.int (i : Int))) else .ret .no
  | _ => .ret .no
/-- the source of draws has gone on -/
theorem rnd_on {r : Addr × Addr} {H' : Hp} (g : Good R [] [] H nL F) (hR : R.r = some r) (ho : ∀ a, a ≠ r.1 → a ≠ r.2 → H' a = H a) (hk : DrwOk H' R) : Good R [] [] H' nL F ∧ Step H (Bn R nL F) H' (Bn R nL F) F := by
  have iA : RnA R r.1 := .inl ⟨r, hR, .inl rfl⟩
  have iB : RnA R r.2 := .inl ⟨r, hR, .inr rfl⟩
  have nF : ∀ a ∈ F, a ≠ r.1 ∧ a ≠ r.2 := fun a ha => ⟨fun z => (g.ra r.1 iA).1 (by rw [← z]; exact ha), fun z => (g.ra r.2 iB).1 (by rw [← z]; exact ha)⟩
  have lst : ∀ {K : Hp}, DrwOk K R → (∃ xs, K r.1 = some (.lst xs)) ∧ ∃ xs, K r.2 = some (.lst xs) := fun {K} k => by
    unfold DrwOk at k
    rw [hR] at k
    obtain ⟨i, m, cs, tl, h1, h2, h3, _⟩ := k
    exact ⟨⟨_, h2⟩, ⟨_, h3⟩⟩
  obtain ⟨⟨x1, l1⟩, ⟨x2, l2⟩⟩ := lst g.rnd.d
  obtain ⟨⟨y1, m1⟩, ⟨y2, m2⟩⟩ := lst hk
  have nl : ∀ a o, H a = some o → (∀ xs, o ≠ .lst xs) → H' a = H a := fun a o e n => ho a (fun z => by rw [z, l1] at e; cases e; exact n _ rfl) fun z => by rw [z, l2] at e; cases e; exact n _ rfl
  have tab : TabOk H' R := by
    refine g.rnd.t.keep (fun a ha => ?_) (fun a q e => nl a _ e fun xs z => ?_) fun a ps e => ?_
    · obtain ⟨p, hp, rfl⟩ := List.mem_map.mp ha
      obtain ⟨ps, e, _⟩ := g.rnd.t.t p hp
      exact nl _ _ e fun xs z => nomatch z
    · unfold LamX.CodeO at z
      cases z
    · by_cases h1 : a = r.1
      · rw [h1, m1] at e; cases e
      · by_cases h2 : a = r.2
        · rw [h2, m2] at e; cases e
        · rw [← ho a h1 h2]; exact e
  refine ⟨⟨g.len, (fun i n d h => by simp at h), g.nd, g.dis, g.fr, g.fd, fun a h => ?_, ⟨hk, tab⟩, g.ra⟩, ⟨fun a o q nb => ?_, fun a ha => ho a (nF a ha).1 (nF a ha).2, fun a h => .inl h⟩⟩
  · by_cases h1 : a = r.1
    · exact ⟨_, by rw [h1]; exact m1, fun _ => lst_no⟩
    · by_cases h2 : a = r.2
      · exact ⟨_, by rw [h2]; exact m2, fun _ => lst_no⟩
      · rw [ho a h1 h2]
        exact g.own a h
  · rw [ho a (fun z => nb (by rw [z]; exact .inr (.inr iA))) fun z => nb (by rw [z]; exact .inr (.inr iB))]
    exact q
/-- a draw's end -/
theorem draw_fin {r : Addr × Addr} {n k : Int} {Q : VK} {E : XK} {H' : Hp} (g : Good R [] [] H nL F) (hR : R.r = some r) (h : (drawF [.rnd, .int n]).All (PostF R H (Bn R nL F) F Q E)) (hk : 0 ≤ k ∧ k < n) (ho : ∀ a, a ≠ r.1 → a ≠ r.2 → H' a = H a) (hr : DrwOk H' R) : Q (.int k) H' := by
  unfold drawF at h
  simp only at h
  split at h
  · have h2 := h k.toNat (by omega)
    obtain ⟨g2, s2⟩ := rnd_on g hR ho hr
    have h3 : PostF R H (Bn R nL F) F Q E (.ok false (.int ((k.toNat : Nat) : Int))) := h2
    have e : ((k.toNat : Nat) : Int) = k := by omega
    rw [e] at h3
    exact h3 (.int k) H' [] s2 g2 (by simp [Rep])
  · exact h.elim
/-- what stands at a draw's begin -/
theorem draw_in {vs : List V} {f : Fn} {Q : VK} {E : XK} {ok : Rn → Prop} (hf : f = drawF) (h : fsp ok 2 f vs H Q E) : ∃ (R : Rn) (F : List Addr) (r : Addr × Addr) (n : Int) (i m : Int) (cs tl : List Int), ok R ∧ Good R [] [] H nL F ∧ R.r = some r ∧ vs = [.ref r.1, .int n] ∧ 0 < n ∧ n < 1000000 ∧
    r.1 ≠ r.2 ∧ H r.1 = some (.lst (.ref r.2 :: .int i :: .int m :: tl.map V.int)) ∧ H r.2 = some (.lst (cs.map V.int)) ∧ 0 ≤ i ∧ 0 ≤ m ∧ m < 2147483648 ∧ cs ≠ [] ∧ cs.length ≤ 63 ∧ tl.length = R.tl ∧ (drawF [.rnd, .int n]).All (PostF R H (Bn R nL F) F Q E) := by
  subst hf
  obtain ⟨R, hok, ds, F, g, rp, hl, h⟩ := h
  match ds, h with
  | [.rnd, .int n], h =>
    have h0 := h
    unfold drawF at h
    simp only at h
    split at h
    · rename_i hn
      obtain ⟨v, vs', rfl, r1, r2⟩ := rp.uncons
      obtain ⟨v2, vs2, rfl, r3, r4⟩ := r2.uncons
      simp only [Reps] at r4
      obtain ⟨rfl, _⟩ := r4
      simp only [Rep] at r1
      obtain ⟨_, r, hR, rfl⟩ := r1
      have hk := g.rnd.d
      unfold DrwOk at hk
      rw [hR] at hk
      obtain ⟨i, m, cs, tl, h1, h2, h3, h4, h5, h6, h7, h8, h9⟩ := hk
      exact ⟨R, F, r, n, i, m, cs, tl, hok, g, hR, by rw [r3.int], hn.1, hn.2, h1, h2, h3, h4, h5, h6, h7, h8, h9, h0⟩
    · exact h.elim
  | [], h => exact h.elim
  | [_], h => simp [drawF] at h; exact h.elim
  | _ :: _ :: _ :: _, h => simp [drawF] at h; exact h.elim
end
end G

set_option maxHeartbeats 1000000
/-! G.Lam2: lambdas as values; defs that take a function. -/
namespace G
open PySem PySem.Spec PyProof.Rows L2 LamX
section
variable {g : Cg} {X : Cx} {R S : Rn} {W : WD} {σ : St} {e : Env} {H : Hp} {Ls : Nat → List Addr} {F : List Addr} {sub : Nat → List Nat}
/-! ### a lambda is made -/
/-- the table has grown -/
theorem Good.tab {P c' : Addr} {q : Str} {ps : Array Value} {po : Pos} (g : Good R σ e H Ls F) (hm : (P, q) ∈ R.tb) (hu : ∀ p ∈ R.tb, p.1 = P → p.2 = q) (hP : H P = some (.tbl ps)) (ht : TriplesOk ps.toList) (hc : H c' = none) :
    Good R σ e (upd (upd H P (.tbl (ps ++ #[rawInt po.line, rawInt po.col, .ref c']))) c' (CodeO c' q)) Ls F ∧ Step H (Bn R Ls F) (upd (upd H P (.tbl (ps ++ #[rawInt po.line, rawInt po.col, .ref c']))) c' (CodeO c' q)) (Bn R Ls F) F := by
  obtain ⟨H2, hH2⟩ : ∃ H2, H2 = upd (upd H P (.tbl (ps ++ #[rawInt po.line, rawInt po.col, .ref c']))) c' (CodeO c' q) := ⟨_, rfl⟩
  rw [← hH2]
  have nPc : P ≠ c' := fun z => by rw [z, hc] at hP; cases hP
  have at2 : ∀ b, b ≠ P → b ≠ c' → H2 b = H b := fun b h1 h2 => by rw [hH2, upd_ne h2, upd_ne h1]
  have atP : H2 P = some (.tbl (ps ++ #[rawInt po.line, rawInt po.col, .ref c'])) := by rw [hH2, upd_ne nPc, upd_same]
  have atc : H2 c' = some (CodeO c' q) := by rw [hH2, upd_same]
  have raP : RnA R P := .inr (List.mem_map.mpr ⟨_, hm, rfl⟩)
  have nc : ∀ b o, H b = some o → b ≠ c' := fun b o e z => by rw [z, hc] at e; cases e
  have nF : ∀ b ∈ F, H2 b = H b := fun b hb => by
    obtain ⟨o, q⟩ := g.has b (.inl hb)
    exact at2 b (fun z => (g.ra P raP).1 (by rw [← z]; exact hb)) (nc b o q)
  have nL : ∀ i, ∀ b ∈ Ls i, H2 b = H b := fun i b hb => by
    obtain ⟨o, q⟩ := g.has b (.inr (.inl ⟨i, hb⟩))
    exact at2 b (fun z => (g.ra P raP).2 i (by rw [← z]; exact hb)) (nc b o q)
  have st : Step H (Bn R Ls F) H2 (Bn R Ls F) F := ⟨fun b o e nb => by rw [at2 b (fun z => nb (by rw [z]; exact .inr (.inr raP))) (nc b o e)]; exact e, nF, fun b h => .inl h⟩
  refine ⟨g.step (Lt := []) st nL ⟨?_, ?_⟩ (by simp) (fun b h => nomatch h) (fun b h => ?_), st⟩
  · have d := g.rnd.d
    unfold DrwOk at d ⊢
    cases hR : R.r with
    | none => trivial
    | some r =>
      rw [hR] at d
      obtain ⟨i, m, cs, tl, h1, h2, h3, h4⟩ := d
      have k : ∀ b xs, H b = some (.lst xs) → H2 b = some (.lst xs) := fun b xs e => by
        rw [at2 b (fun z => by rw [z, hP] at e; cases e) (nc b _ e)]
        exact e
      exact ⟨i, m, cs, tl, h1, k _ _ h2, k _ _ h3, h4⟩
  · have eN : ∀ b o, H b = some o → (∀ ps, o ≠ .tbl ps) → H2 b = some o := fun b o e n => by
      rw [at2 b (fun z => by rw [z, hP] at e; exact n ps (Option.some.inj e).symm) (nc b _ e)]
      exact e
    have eL : (ps ++ #[rawInt po.line, rawInt po.col, .ref c']).toList = ps.toList ++ [rawInt po.line, rawInt po.col, .ref c'] := by simp
    refine ⟨fun p hp => ?_, fun b qs e => ?_⟩
    · obtain ⟨ps', a1, a2, a3⟩ := g.rnd.t.t p hp
      by_cases hb : p.1 = P
      · rw [hu p hp hb, hb]
        rw [hb, hP] at a1
        cases a1
        refine ⟨_, atP, by rw [eL]; exact PySem.TriplesOk_snoc _ _ _ _ ht, fun p' cv hcv => ?_⟩
        rw [eL] at hcv
        rcases among_app _ ht hcv with z | z
        · obtain ⟨c0, e1, e2⟩ := a3 p' cv z
          rw [hu p hp hb] at e2
          exact ⟨c0, e1, eN _ _ e2 codeO_ne⟩
        · exact ⟨c', z, atc⟩
      · refine ⟨ps', by rw [at2 _ hb (nc _ _ a1)]; exact a1, a2, fun p' cv hcv => ?_⟩
        · obtain ⟨c0, e1, e2⟩ := a3 p' cv hcv
          exact ⟨c0, e1, eN _ _ e2 codeO_ne⟩
    · by_cases hb : b = P
      · rw [hb]; exact List.mem_map.mpr ⟨_, hm, rfl⟩
      · by_cases hbc : b = c'
        · rw [hbc, atc] at e
          exact absurd (Option.some.inj e) (codeO_ne qs)
        · rw [at2 b hb hbc] at e
          exact g.rnd.t.o b qs e
  · by_cases hb : b = P
    · exact ⟨_, by rw [hb]; exact atP, fun _ => tbl_no⟩
    · obtain ⟨o, q1, q2⟩ := g.own b (.inr (.inr h))
      exact ⟨o, by rw [at2 b hb (nc b o q1)]; exact q1, q2⟩

/-- this def's lambdas -/
abbrev LamL := List (Arguments × Expr × Scope)
def lamTab (X : Cx) (ls : LamL) (k : Nat) (f c : Addr) : Option HO := (ls[k]?).map fun p => FunO X.env.qual p.1 p.2.1 p.2.2 (cloFrom X.env.cells p.2.2.names []) f c
/-- the frame of a def with lambdas -/
structure OwnL (R : Rn) (X : Cx) (ls : LamL) : Prop where
  tb : ∃ c P, TabB X.base X.mg c P ∧ X.env.code = .ref c ∧ (P, X.env.qual ++ "<lambda>") ∈ R.tb ∧ ∀ p ∈ R.tb, p.1 = P → p.2 = X.env.qual ++ "<lambda>"
  lq : R.lq = X.env.qual ++ "<lambda>"
  lo : R.lo = lamTab X ls
  wv : R.wv = []
theorem noBnC {c : Addr} {q : Str} (g : Good R σ e H Ls F) (h : H c = some (CodeO c q)) : ¬ Bn R Ls F c := fun z => by
  obtain ⟨o, q1, q2⟩ := g.own c z
  rw [h] at q1
  exact q2 q (Option.some.inj q1).symm
theorem je_lam {k : Nat} {params : Arguments} {body : Expr} {scope : Scope} {pos : Pos} {ls : LamL} (O : OwnL g.R X ls) (L : LamS X.env.scope scope) (hk : ls[k]? = some (params, body, scope) := by rfl) (hdef : defaultsOf params X.env = ([], []) := by rfl) : JE g X (.Lambda params body scope pos) (.lam k) := by
  refine .of ⟨fun pins s σ H Q I h => ?_⟩ (fun _ => rfl) rfl fun _ => rfl
  obtain ⟨c, P, TB, hcode, hm, hu⟩ := O.tb
  obtain ⟨e, Ls, F, G, h⟩ := h
  have h : PostV g.R g.W σ H (Bn g.R Ls F) F Q (.ok (0, .clo k []) e) := h
  have hlo : ∀ f c', g.R.lo k f c' = some (FunO X.env.qual params body scope (cloFrom X.env.cells scope.names []) f c') := fun f c' => by
    rw [O.lo]
    unfold lamTab
    rw [hk]
    rfl
  refine lam_new I TB hcode hm G.rnd.t.t hdef (L.has I.ok) (fun f c' s' hc hf J => ?_) fun f c' ps po s' hP ht hc hf hfc J => ?_
  · obtain ⟨g', st⟩ := G.newT (o := FunO X.env.qual params body scope (cloFrom X.env.cells scope.names []) f c') hf (fun ps => funO_no ps)
    have ne : c' ≠ f := fun z => by rw [z, hf] at hc; cases hc
    have hc2 : upd H f (FunO X.env.qual params body scope (cloFrom X.env.cells scope.names []) f c') c' = some (CodeO c' (X.env.qual ++ "<lambda>")) := by rw [upd_ne ne]; exact hc
    refine ⟨.ref f, _, J, rfl, h (.ref f) _ Ls [] st g' ?_⟩
    simp only [Rep]
    exact ⟨trivial, f, rfl, ⟨c', _, hlo f c', upd_same, not_bn G hf, by rw [O.lq]; exact hc2, noBnC g' hc2⟩, by rw [O.wv]; exact .nil⟩
  · obtain ⟨g1, st1⟩ := G.tab (po := po) hm hu hP ht hc
    obtain ⟨H2, hH2⟩ : ∃ H2, H2 = upd (upd H P (.tbl (ps ++ #[rawInt po.line, rawInt po.col, .ref c']))) c' (CodeO c' (X.env.qual ++ "<lambda>")) := ⟨_, rfl⟩
    rw [← hH2] at g1 st1 J
    have hf2 : H2 f = none := by
      rw [hH2, upd_ne hfc, upd_ne fun z => by rw [z, hP] at hf; cases hf]
      exact hf
    have hc2 : H2 c' = some (CodeO c' (X.env.qual ++ "<lambda>")) := by rw [hH2, upd_same]
    obtain ⟨g', st⟩ := g1.newT (o := FunO X.env.qual params body scope (cloFrom X.env.cells scope.names []) f c') hf2 (fun ps => funO_no ps)
    have hc3 : upd H2 f (FunO X.env.qual params body scope (cloFrom X.env.cells scope.names []) f c') c' = some (CodeO c' (X.env.qual ++ "<lambda>")) := by rw [upd_ne (Ne.symm hfc)]; exact hc2
    refine ⟨.ref f, _, J, rfl, h (.ref f) _ Ls [] (st1.trans st fun a z => z) g' ?_⟩
    simp only [Rep]
    exact ⟨trivial, f, rfl, ⟨c', _, hlo f c', upd_same, not_bn g1 hf2, by rw [O.lq]; exact hc3, noBnC g' hc3⟩, by rw [O.wv]; exact .nil⟩
/-! ### what a lambda takes from its frame -/
def CapV (σ : St) : List Nat → List V → Prop
  | [], [] => True
  | i :: is, v :: vs => σ[i]? = some (some v) ∧ CapV σ is vs
  | _, _ => False
theorem frzE_all {i : Nat} {P : Rs (Nat × D) → Prop} (h : (frzE i e).All P) (hn : ¬ P .no) : ∃ n d, e[i]? = some (some (n, d)) ∧ P (.ok (0, d) (e.set i (some (0, d)))) := by
  cases hi : e[i]? with
  | none =>
    have z : frzE i e = .ret .no := by
      show (getE i e).bind _ = _
      unfold getE
      rw [hi]
      rfl
    rw [z] at h
    exact absurd h hn
  | some o =>
    cases o with
    | none =>
      have z : frzE i e = .ret .no := by
        show (getE i e).bind _ = _
        unfold getE
        rw [hi]
        rfl
      rw [z] at h
      exact absurd h hn
    | some r =>
      obtain ⟨n, d⟩ := r
      rw [frzE_ok hi] at h
      exact ⟨n, d, rfl, h⟩
theorem frzs_all : ∀ {is : List Nat} {e : Env} {Ls : Nat → List Addr} {P : Rs (List D) → Prop}, Good R σ e H Ls F → (frzs is e).All P → ¬ P .no →
    ∃ l e' Ls' vs, P (.ok l e') ∧ Good R σ e' H Ls' F ∧ Step H (Bn R Ls F) H (Bn R Ls' F) F ∧ Reps R H (Bn R Ls' F) 0 l vs [] ∧ CapV σ is vs
  | [], e, Ls, P, g, h, hn => ⟨[], e, Ls, [], h, g, .refl, .nil, trivial⟩
  | i :: is, e, Ls, P, g, h, hn => by
    have h : (mb (frzE i) (fun x => mb (frzs is) fun l => pu (x.2 :: l)) e).All P := h
    obtain ⟨n, d, hi, h1⟩ := frzE_all (all_mb.mp h) hn
    obtain ⟨v, e1, g1, s1, r1⟩ := g.give hi
    have h1 : (mb (frzs is) (fun l => pu (d :: l)) (e.set i (some (0, d)))).All P := h1
    obtain ⟨l, e2, Ls2, vs, h2, g2, s2, r2, c2⟩ := frzs_all g1 (all_mb.mp h1) hn
    exact ⟨d :: l, e2, Ls2, v :: vs, h2, g2, s1.trans s2 fun a z => z, .cons (Rep.by (L := []) s2 (fun _ z => nomatch z) r1) r2, e1, c2⟩
theorem capE_len {n : Nat} : ∀ {is : List Nat} {ds : List D}, (capE n is ds).length = n
  | [], _ => by simp [capE]
  | _ :: _, [] => by simp [capE]
  | i :: is, d :: ds => by
    show ((capE n is ds).set i _).length = n
    rw [List.length_set, capE_len]
theorem capE_get {n : Nat} {B : Addr → Prop} : ∀ {is : List Nat} {ds : List D} {vs : List V} {i m : Nat} {d : D}, Reps R H B 0 ds vs [] → CapV σ is vs → (capE n is ds)[i]? = some (some (m, d)) → m = 0 ∧ ∃ v, σ[i]? = some (some v) ∧ Rep R H B 0 d v []
  | [], ds, vs, i, m, d, r, c, h => by
    have h : (List.replicate n (none : Option (Nat × D)))[i]? = some (some (m, d)) := by simpa [capE] using h
    rw [List.getElem?_replicate] at h
    split at h <;> cases h
  | _ :: _, [], vs, i, m, d, r, c, h => by
    have h : (List.replicate n (none : Option (Nat × D)))[i]? = some (some (m, d)) := by simpa [capE] using h
    rw [List.getElem?_replicate] at h
    split at h <;> cases h
  | j :: is, x :: ds, vs, i, m, d, r, c, h => by
    obtain ⟨v, vs', rfl, r1, r2⟩ := r.uncons
    obtain ⟨c1, c2⟩ := c
    have h : ((capE n is ds).set j (some (0, x)))[i]? = some (some (m, d)) := h
    by_cases hij : j = i
    · subst hij
      rw [List.getElem?_set] at h
      rw [if_pos rfl] at h
      split at h
      · cases h
        exact ⟨rfl, v, c1, r1⟩
      · cases h
    · rw [List.getElem?_set_ne hij] at h
      exact capE_get r2 c2 h
theorem Good.caps {A : List Addr} {n : Nat} {is : List Nat} {ds : List D} {vs : List V} (g : Good R [] [] H nL A) (r : Reps R H (Bn R nL A) 0 ds vs []) (c : CapV σ is vs) (hn : σ.length = n) : Good R σ (capE n is ds) H nL A := by
  refine ⟨capE_len.trans hn.symm, fun i m d h => ?_, g.nd, g.dis, g.fr, g.fd, g.own, g.rnd, g.ra⟩
  obtain ⟨rfl, v, h1, h2⟩ := capE_get r c h
  exact ⟨v, h1, h2⟩
/-! ### the same world -/
theorem Sim.rna (s : Sim R S) {a : Addr} : RnA S a ↔ RnA R a := by
  unfold RnA
  rw [s.r, s.tb]
theorem Sim.bn (s : Sim R S) {a : Addr} : Bn S Ls F a ↔ Bn R Ls F a := by
  unfold Bn
  rw [s.rna]
theorem Sim.bnE (s : Sim R S) : Bn S Ls F = Bn R Ls F := funext fun a => propext s.bn
theorem Sim.rnd (s : Sim R S) (h : RndOk H R) : RndOk H S := by
  refine ⟨?_, ?_, ?_⟩
  · have d := h.d
    unfold DrwOk at d ⊢
    rw [s.r, s.tl]
    exact d
  · rw [s.tb]; exact h.t.t
  · rw [s.tb]; exact h.t.o
theorem Good.sim0 (s : Sim R S) (g : Good R [] [] H nL F) : Good S [] [] H nL F :=
  ⟨g.len, fun i n d h => by simp at h, g.nd, g.dis, g.fr, g.fd, fun a h => g.own a (s.bn.mp h), s.rnd g.rnd, fun a h => g.ra a (s.rna.mp h)⟩
theorem XRep.sim (s : Sim R S) {B : Addr → Prop} {x : D} {cls : Value} {dd : Option Addr} (hx : x.noClo = true) (h : XRep R H B x cls dd) : XRep S H B x cls dd := by
  obtain ⟨c, fs, vs, rfl, e2, r, z⟩ := h
  exact ⟨c, fs, vs, rfl, by rw [s.ca]; exact e2, Reps.sim s 0 fs vs [] (by simpa [D.noClo] using hx) r, z.sim s⟩
/-- a promise, told in another world's words -/
theorem PostF.sim (s : Sim R S) {Q : VK} {E : XK} {r : FO} (hc : r.noClo = true) (h : PostF R H (Bn R nL F) F Q E r) : PostF S H (Bn S nL F) F Q E r := by
  match r, hc, h with
  | .ok fr d, hc, h =>
    intro v H' Lt st g rp
    rw [s.bnE, s.bnE] at st
    rw [s.bnE] at rp
    exact h v H' Lt st (g.sim0 s.symm) (Rep.sim s.symm _ d v Lt hc rp)
  | .err x, hc, h =>
    intro H' st g cls dd xr
    rw [s.bnE] at st
    rw [s.bnE] at xr
    exact h H' st (g.sim0 s.symm) cls dd (xr.sim s.symm hc)
  | .no, hc, h => exact h.elim
/-! ### a callee's end is ours -/
theorem call_at {e' : Env} {Ls' : Nat → List Addr} {H0 H' : Hp} {B0 : Addr → Prop} {Q : VK} (gd : Good R σ e' H' Ls' F) (st : Step H0 B0 H' (Bn R Ls' F) F) :
    ∃ A : List Addr, Good R [] [] H' nL A ∧ Step H' (Bn R Ls' F) H' (Bn R nL A) F ∧ ∀ r : FO, (foE r e').All (PostV R W σ H0 B0 F Q) → PostF R H' (Bn R nL A) A Q (WE (wX W) σ) r := by
  obtain ⟨gt, sT⟩ := gd.trim
  have st := st.trans sT fun a z => z
  obtain ⟨gs, hb⟩ := gt.seen
  generalize trimL σ.length Ls' = L1 at gt sT st gs hb
  generalize hA : ownL σ.length L1 ++ F = A at gs hb
  have subF : ∀ a ∈ F, a ∈ A := fun a z => by rw [← hA]; exact List.mem_append_right _ z
  have subL : ∀ i, ∀ a ∈ L1 i, a ∈ A := fun i a z => by
    have := (hb a).mpr (.inr (.inl ⟨i, z⟩))
    rcases this with q | ⟨i, q⟩ | q
    · exact q
    · cases q
    · exact absurd z ((gt.ra a q).2 i)
  refine ⟨A, gs, ⟨fun _ _ e _ => e, fun _ _ => rfl, fun a z => sT.bn a ((hb a).mp z)⟩, fun r hr => ?_⟩
  match r, hr with
  | .no, hr => exact hr
  | .ok fr d, hr =>
    intro v H2 Lt s2 g2 r2
    have hb2 : ∀ a, Bn R L1 (Lt ++ F) a ↔ Bn R nL (Lt ++ A) a := fun a => by
      constructor
      · rintro (z | ⟨i, z⟩ | z)
        · rcases List.mem_append.mp z with z | z
          · exact .inl (List.mem_append_left _ z)
          · exact .inl (List.mem_append_right _ (subF a z))
        · exact .inl (List.mem_append_right _ (subL i a z))
        · exact .inr (.inr z)
      · rintro (z | ⟨i, z⟩ | z)
        · rcases List.mem_append.mp z with z | z
          · exact .inl (List.mem_append_left _ z)
          · rcases (hb a).mp (.inl z) with y | y
            · exact .inl (List.mem_append_right _ y)
            · exact .inr y
        · cases z
        · exact .inr (.inr z)
    have s3 : Step H' (Bn R L1 F) H2 (Bn R L1 (Lt ++ F)) F := ⟨fun a o q nb => s2.ext a o q fun z => nb ((hb a).mp z), fun a z => s2.frm a (subF a z), fun a z => (s2.bn a ((hb2 a).mp z)).imp (fun y => (hb a).mp y) id⟩
    have nd2 := List.nodup_append.mp g2.fd
    have g3 : Good R σ e' H2 L1 (Lt ++ F) := gt.step s3 (fun i a z => s2.frm a (subL i a z)) g2.rnd nd2.1 (fun a z => ⟨?_, g2.own a (.inl (List.mem_append_left _ z))⟩) fun a z => g2.own a (.inr (.inr z))
    · exact hr v H2 L1 Lt (st.trans s3 fun a z => z) g3 (Rep.by (F := []) (Step.of_iff hb2) (fun _ _ => rfl) r2)
    · rcases s2.bn a (.inl (List.mem_append_left _ z)) with y | y
      · exfalso
        rcases y with y | ⟨i, y⟩ | y
        · exact nd2.2.2 a z a y rfl
        · cases y
        · exact (g2.ra a y).1 (List.mem_append_left _ z)
      · exact y
  | .err x, hr =>
    intro H2 s2 g2 cls dd x2
    have s3 : Step H' (Bn R L1 F) H2 (Bn R L1 F) F := ⟨fun a o q nb => s2.ext a o q fun z => nb ((hb a).mp z), fun a z => s2.frm a (subF a z), fun a z => .inl z⟩
    have g3 : Good R σ e' H2 L1 ([] ++ F) := gt.step (Lt := []) s3 (fun i a z => s2.frm a (subL i a z)) g2.rnd List.nodup_nil (fun a z => nomatch z) fun a z => g2.own a (.inr (.inr z))
    exact ⟨x, hr H2 L1 (st.trans s3 fun a z => z) g3 cls dd (x2.by (F := []) (Step.of_iff fun a => (hb a).symm))⟩
end
end G

set_option maxHeartbeats 1000000
/-! G.Lam3: a function is called; a def that takes one; a def that makes some. -/
namespace G
open PySem PySem.Spec PyProof.Rows L2 LamX
section
variable {g : Cg} {X : Cx} {R S : Rn} {W : WD} {σ : St} {e : Env} {H : Hp} {Ls : Nat → List Addr} {F : List Addr} {sub : Nat → List Nat}
/-- the def at Z calls what it got -/
abbrev callZ (a : Str) (p1 p2 : Pos) : Expr := .Call (.Name a p1) [] [] p2
structure ActG (Z : Cx) (R : Rn) (a : Str) (lam : Lam) : Prop where
  act : ∀ (pn : List (Addr × Obj)) (xe : Value → Shared → Prop) (W : WD) (sub : Nat → List Nat) (Fs : Nat → Fn) (J : Nat) (p1 p2 : Pos), Takes (Z.tr pn xe) (wX W) → Fs J = cloF lam → PE (Z.tr pn xe) (callZ a p1 p2) (tV R W (ev sub Fs (.cw 0 J)).val)
theorem je_cw {Z : Cx} {a : Str} {lam : Lam} {pn : List (Addr × Obj)} {xe : Value → Shared → Prop} {J : Nat} {p1 p2 : Pos} (act : ActG Z g.R a lam) (tk : Takes (Z.tr pn xe) (wX g.W)) (hF : g.F J = cloF lam) : JE g (Z.tr pn xe) (.Call (.Name a p1) [] [] p2) (.cw 0 J) :=
  .of (act.act pn xe g.W g.sub g.F J p1 p2 tk hF) (fun _ => rfl) rfl fun _ => rfl
/-- a lambda, read: its body in its owner's words -/
structure LamI (ok : Rn → Prop) (X : Cx) (k : Nat) (p : Arguments × Expr × Scope) (caps : List Nat) (fn : List D → Fn) : Prop where
  s : LamS X.env.scope p.2.2
  bind : ∀ (q : Str) (cl : List (Str × Addr)) (pm cv ctv : Value), bindArgs (PySem.W.kla_fn "<lambda>" q p.1 p.2.1 p.2.2 cl pm cv ctv) ⟨[], []⟩ = pure []
  body : ∃ (sub : Nat → List Nat) (T : Nat → Fn) (b : E), (∀ l, fn l = lamOf sub T X.N.length caps b l) ∧ ∀ (A : Around) (outer : List PySem.Env) (s : Shared) (H : Hp) (E : XK) (f c' : Addr) (R : Rn), ok R → Cok (lamCx X A outer s H E p.2.2 f c') → Room k (A.deeper (lamEnv X p.2.2 s.heap.objs.size f c')) →
    Takes (lamCx X A outer s H E p.2.2 f c') (wX (cgOf R E sub T).W) → JE (cgOf R E sub T) (lamCx X A outer s H E p.2.2 f c') p.2.1 b
/-- x(), in the def that got the lambda -/
theorem pe_actG {pins : List (Addr × Obj)} {s : Shared} {CXg : Nat} {Ng : List Str} {qg : Str} {sg : Scope} {g0 : Addr} {cdg : Value} {params : Arguments} {body : Expr} {scope : Scope} {k i : Nat} {a : Str} {pn : List (Addr × Obj)} {xe : Value → Shared → Prop} {Wx : WX} {tb : XK → TE} {p1 p2 : Pos} {Eg : XK}
    (I : Inv X pins σ H s) (L : LamS X.env.scope scope)
    (hbind : ∀ (q : Str) (cl : List (Str × Addr)) (pm cv ctv : Value), bindArgs (PySem.W.kla_fn "<lambda>" q params body scope cl pm cv ctv) ⟨[], []⟩ = pure [])
    (tk : Takes ((cxOf (L2.CX X.prog X.w) X.prog X.w X.K X.mg X.base Ng qg sg g0 cdg X.A X.stack s H Eg).tr pn xe) Wx) (hr : Room (k + 1) (X.A.deeper (envOfC qg sg s.heap.objs.size g0 cdg)))
    (hbody : ∀ (A : Around) (outer : List PySem.Env) (s : Shared) (H : Hp) (E : XK) (f c' : Addr), A.guards = X.A.guards → Room k (A.deeper (lamEnv X scope s.heap.objs.size f c')) → PE (lamCx X A outer s H E scope f c') body (tb E))
    (hN : Ng[i]? = some a) (hv : Vis sg a) (hd : (a == ("__debug__" : Str)) = false := by decide) (hcd : (a == ("__classdict__" : Str)) = false := by decide) :
    PE ((cxOf (L2.CX X.prog X.w) X.prog X.w X.K X.mg X.base Ng qg sg g0 cdg X.A X.stack s H Eg).tr pn xe) (callZ a p1 p2)
      (fun σZ HZ Q => ∃ f c', σZ[i]? = some (some (.ref f)) ∧ HZ f = some (FunO X.env.qual params body scope (cloFrom X.env.cells scope.names []) f c') ∧ HZ c' = some (CodeO c' (X.env.qual ++ "<lambda>")) ∧ tb (WE Wx σZ) σ HZ Q) := by
  refine ⟨fun pinsZ sZ σZ HZ Q IZ h => ?_⟩
  obtain ⟨f, c', hs, hf, hc, ht⟩ := h
  refine wpAny_Call_Name_kw (thn ((pe_var (pos := p1) (i := i) hN hv hd hcd).run pinsZ sZ σZ HZ (fun v H1 => v = .ref f ∧ H1 = HZ) IZ ⟨.ref f, hs, rfl, rfl⟩) fun u s1 ⟨v, H1, I1, r1, q1⟩ => ?_)
  obtain ⟨ev, eH⟩ := q1
  subst ev
  rw [eH] at I1
  obtain rfl : u = Value.ref f := r1
  obtain ⟨⟨pm, ctv, of1⟩, _, _⟩ := I1.hok f _ hf
  refine PySem.W.callWith_F0 ⟨_, _, _, _, of1⟩ ?_
  have un : Un (frs X.stack) [] H HZ s.heap s1.heap := I1.base
  obtain ⟨⟨oc, vs, t, hoc, hdc, hvc⟩, _, _⟩ := I1.hok c' _ hc
  have rc : codeAny (model X.prog X.w) (X.A.deeper (envOfC qg sg s.heap.objs.size g0 cdg)) (.call (.ref f) ⟨[], []⟩) (CR (L2.CX X.prog X.w) (envOfC qg sg s.heap.objs.size g0 cdg :: X.stack) X.prog X.w HZ s1 Q (WE Wx σZ)) s1 := by
    refine PySem.W.kla_callFunE hr.depth of1 rfl L.co L.gen rfl ⟨c', oc, vs, t, rfl, hoc, hdc, hvc⟩ ?_
    rw [hbind]
    refine wpAny_pure (wpAny_newFunctionEnv (fun y hy => (L.own y hy).2) (fun y hy => absurd hy (by simp)) (fun h₁ hns hsb => ⟨I1.nolimit.fresh _ hsb, ?_⟩) L.kind)
    show codeAny _ _ (.expr body (lamEnv X scope s1.heap.objs.size f c')) _ _
    have kp : ∀ b o, s1.heap.get? b = some o → h₁.get? b = some o := fun b o e => hsb.extBut b o (Nat.ne_of_lt (Heap.lt_size e)) (Heap.get?_push_of_some _ e)
    have J : Inv (lamCx X (X.A.deeper (envOfC qg sg s.heap.objs.size g0 cdg)) (envOfC qg sg s.heap.objs.size g0 cdg :: X.stack) s1 HZ (WE Wx σZ) scope f c') [] σ HZ { s1 with heap := h₁, toks := s1.toks + ([] : List (Str × Value)).length } :=
      lam_start2 I L I1.env0 hr.hd un hns kp
    refine PySem.W.kla_codeExpr (wpAny_mono ((hbody (X.A.deeper (envOfC qg sg s.heap.objs.size g0 cdg)) (envOfC qg sg s.heap.objs.size g0 cdg :: X.stack) s1 HZ (WE Wx σZ) f c' rfl (hr.deeper _)).run [] _ _ HZ Q J ht) (fun v s' hq => ?_) fun e s' hq => hq)
    obtain ⟨w', H', J', rv, q⟩ := hq
    exact ⟨w', H', J'.os, J'.bare, J'.base, J'.hok, rv, q⟩
  refine wpAny_call (codeAny_mono rc fun r s' hq => ?_)
  cases r with
  | error e => exact passAt tk σZ pinsZ HZ s1 e s' I1 hq
  | ok fl =>
    cases fl with
    | ret u => exact I1.after hq
    | next => exact False.elim hq
    | brk => exact False.elim hq
    | cont => exact False.elim hq
theorem cok_lam {A : Around} {outer : List PySem.Env} {s : Shared} {E : XK} {scope : Scope} {f c' : Addr} {k : Nat} (hgd : A.guards = some []) (nd : X.N.Nodup) (hr : Room k (A.deeper (lamEnv X scope s.heap.objs.size f c'))) : Cok (lamCx X A outer s H E scope f c') :=
  ⟨rfl, by have := hr.un; show (A.deeper (lamEnv X scope s.heap.objs.size f c')).units + 200 < cLine; omega, hgd, nd, PassesOwn.leaving⟩
theorem takes_lam {A : Around} {outer : List PySem.Env} {s : Shared} {E : XK} {scope : Scope} {f c' : Addr} {T : Nat → Fn} : Takes (lamCx X A outer s H E scope f c') (wX (cgOf R E sub T).W) := (takes_of rfl rfl rfl rfl).imp fun c d σ H ⟨_, z⟩ => z
/-- the end of a lambda's body -/
theorem lamOf_run {T : Nat → Fn} {n : Nat} {caps : List Nat} {b : E} {l : List D} {vs : List V} {A : List Addr} {Q : VK} {E : XK} (gd : Good R [] [] H nL A) (rp : Reps R H (Bn R nL A) 0 l vs []) (cv : CapV σ caps vs) (hn : σ.length = n)
    (h : (lamOf sub T n caps b l []).All (PostF R H (Bn R nL A) A Q E)) : tV R (fun _ cls dd _ H => E cls dd H) (ev sub T b).val σ H Q := by
  refine ⟨_, nL, A, gd.caps rp cv hn, (Tr.all_bind.mp h).mono fun r hr => ?_⟩
  match r, hr with
  | .ok (m, d) e, hr =>
    intro v H' Ls' Lt s gd rp
    by_cases hm : (m == 1 && top d == 1) = true
    · have hm2 : m = 1 ∧ top d = 1 := by simpa using hm
      obtain ⟨gc, sc⟩ := gd.close
      have hr : PostF R H (Bn R nL A) A Q E (.ok (m == 1 && top d == 1) d) := hr
      rw [hm] at hr
      refine hr v H' Lt (s.trans (F1 := A) ⟨sc.ext, fun a z => rfl, sc.bn⟩ fun a z => z) gc ?_
      rw [if_pos rfl, hm2.2, ← hm2.1]
      exact rp.by sc fun _ _ => rfl
    · obtain ⟨gf, sf, rf⟩ := gd.froze s rp
      obtain ⟨gc, sc⟩ := gf.close
      have hr : PostF R H (Bn R nL A) A Q E (.ok (m == 1 && top d == 1) d) := hr
      rw [Bool.not_eq_true] at hm
      rw [hm] at hr
      exact hr v H' [] (sf.trans sc fun a z => z) gc (Rep.by (L := []) sc (fun _ z => nomatch z) rf)
  | .err x e, hr =>
    intro H' Ls' s gd cls dd xr
    obtain ⟨gc, sc⟩ := gd.close
    exact hr H' (s.trans sc fun a z => z) gc cls dd (xr.by sc)
  | .no, hr => exact hr
theorem isClo_clo {d : D} (h : isClo d = true) : ∃ k l, d = .clo k l := by
  match d, h with
  | .clo k l, _ => exact ⟨k, l, rfl⟩
/-- all that a callee asks of its function -/
theorem act_of {ok : Rn → Prop} {pins : List (Addr × Obj)} {s : Shared} {Ng : List Str} {qg : Str} {sg : Scope} {g0 : Addr} {cdg : Value} {k : Nat} {a : Str} {kk : Nat} {p : Arguments × Expr × Scope} {caps : List Nat} {lam : Lam} {vs : List V} {Eg : XK}
    (C : Cok X) (I : Inv X pins σ H s) (LI : LamI ok X k p caps (lam kk)) (hok : ok S) (hwv : S.wv = vs) (cv : CapV σ caps vs) (hlq : S.lq = X.env.qual ++ "<lambda>") (hlo : ∀ k' f c o, S.lo k' f c = some o → k' = kk ∧ o = FunO X.env.qual p.1 p.2.1 p.2.2 (cloFrom X.env.cells p.2.2.names []) f c)
    (hr : Room (k + 1) (X.A.deeper (envOfC qg sg s.heap.objs.size g0 cdg))) (hN : Ng[0]? = some a) (hv : Vis sg a) (hd : (a == ("__debug__" : Str)) = false) (hcd : (a == ("__classdict__" : Str)) = false) :
    ActG (cxOf (L2.CX X.prog X.w) X.prog X.w X.K X.mg X.base Ng qg sg g0 cdg X.A X.stack s H Eg) S a lam := by
  obtain ⟨subL, T, b, hfn, hbody⟩ := LI.body
  refine ⟨fun pn xe W sub Fs J p1 p2 tk hF => ?_⟩
  refine (pe_actG (CXg := 0) (i := 0) (tb := fun E => tV S (fun _ cls dd _ H => E cls dd H) (ev subL T b).val) I LI.s LI.bind tk hr (fun A outer s H E f c' hgd hr2 => (hbody A outer s H E f c' S hok (cok_lam (hgd.trans C.gd) C.nd hr2) hr2 takes_lam).val) hN hv hd hcd).imp fun σZ HZ Q z => ?_
  obtain ⟨e, Ls, F, G, h⟩ := z
  have h : (mb (getE 0) (fun x => tst (isClo x.2) (mb (ltr (Fs J [x.2])) foE)) e).All (PostV S W σZ HZ (Bn S Ls F) F Q) := h
  obtain ⟨⟨n, d⟩, h1, h2⟩ := getE_all (all_mb.mp h) no_V
  have h2 : (tst (isClo d) (mb (ltr (Fs J [d])) foE) e).All (PostV S W σZ HZ (Bn S Ls F) F Q) := h2
  obtain ⟨hd1, h3⟩ := tst_all h2 no_V
  obtain ⟨k', cap, rfl⟩ := isClo_clo hd1
  obtain ⟨v, e1, rv⟩ := G.rep 0 n _ h1
  simp only [Rep] at rv
  obtain ⟨_, f, rfl, ⟨c, o, l1, l2, l3, l4, l5⟩, rc⟩ := rv
  obtain ⟨rfl, rfl⟩ := hlo k' f c o l1
  rw [hF] at h3
  rw [hwv] at rc
  obtain ⟨A, gs, sA, post⟩ := call_at (W := W) (σ := σZ) (Q := Q) (e' := e) G (.refl)
  refine ⟨f, c, e1, l2, by rw [← hlq]; exact l4, ?_⟩
  refine lamOf_run (vs := vs) gs (Reps.by (L := []) sA (fun _ z => nomatch z) rc) cv I.len ?_
  have h4 : ((cloF lam [.clo k' cap]).bind fun a => Tr.ret (Rs.ok a e)).All (fun r => (mk foE r).All (PostV S W σZ HZ (Bn S Ls F) F Q)) := all_mb.mp h3
  have h5 : (cloF lam [.clo k' cap]).All fun r => (foE r e).All (PostV S W σZ HZ (Bn S Ls F) F Q) := (Tr.all_bind (f := fun a => Tr.ret (Rs.ok a e))).mp h4
  have h6 : cloF lam [.clo k' cap] = lamOf subL T X.N.length caps b cap [] := by
    show lam k' cap [] = _
    rw [hfn]
  rw [h6] at h5
  exact h5.mono fun r hr => post r hr
/-! ### a def that takes a function -/
structure FnL (P : Program) (w : World) (K : PySem.W.Frag) (mg : Str → Option Value) (base : Heap) (k : Nat) (f : Addr) (fd : FuncData) (x : Str) (sg : Scope) (N : List Str) (a : Str) (ok : Rn → Prop) (FW : Lam → Fn) : Prop where
  n0 : N[0]? = some a
  vis : Vis sg a
  db : (a == ("__debug__" : Str)) = false
  cd : (a == ("__classdict__" : Str)) = false
  run : ∀ (A : Around) (outer : List PySem.Env) (s : Shared) (H : Hp) (args : Args) (u : Value) (v : V) (Q : VK) (E : XK) (R : Rn) (F : List Addr) (kk : Nat) (cap : List D) (lam : Lam), Room k A → A.guards = some [] → Env0 P w K mg base A outer s H → BindsTo s fd args [(a, u)] → Vals [v] [u] → ok R → Good R [] [] H nL F → Rep R H (Bn R nL F) 0 (.clo kk cap) v [] →
    (∀ cdv, ActG (cxOf (L2.CX P w) P w K mg base N x sg f cdv A outer s H E) R a lam) → (FW lam [.clo kk cap]).All (PostF R H (Bn R nL F) F Q E) → codeAny (model P w) A (.call (.ref f) args) (CR (L2.CX P w) outer P w H s Q E) s
theorem fnL_of {P : Program} {w : World} {K : PySem.W.Frag} {mg : Str → Option Value} {base : Heap} {x : Str} {st : Stmt} {f : Addr} {fd : FuncData} {N : List Str} {a : Str} {k : Nat} {ok : Rn → Prop} {Fs : Lam → Nat → Fn} {body : Ss} (Fu : Fun K x x st f fd) (S : FnScope N [a] (defScope st))
    (hbody : ∀ (cdv : Value) (A : Around) (outer : List PySem.Env) (s : Shared) (H : Hp) (E : XK) (R : Rn) (lam : Lam), ok R → Cok (cxOf (L2.CX P w) P w K mg base N x (defScope st) f cdv A outer s H E) → Room k (A.deeper (envOfC x (defScope st) s.heap.objs.size f cdv)) →
      Takes (cxOf (L2.CX P w) P w K mg base N x (defScope st) f cdv A outer s H E) (wX (cgOf R E sub (Fs lam)).W) → ActG (cxOf (L2.CX P w) P w K mg base N x (defScope st) f cdv A outer s H E) R a lam → JSs (cgOf R E sub (Fs lam)) (cxOf (L2.CX P w) P w K mg base N x (defScope st) f cdv A outer s H E) (defBody st) body)
    (n0 : N[0]? = some a := by rfl) (vis : Vis (defScope st) a := by first | exact Or.inl rfl | exact Or.inr (Or.inl rfl) | exact Or.inr (Or.inr rfl)) (db : (a == ("__debug__" : Str)) = false := by decide) (cd : (a == ("__classdict__" : Str)) = false := by decide) :
    FnL P w K mg base (k + 1) f fd x (defScope st) N a ok (fun lam => fnOf sub (Fs lam) N.length body) := by
  refine ⟨n0, vis, db, cd, fun A outer s H args u v Q E R F kk cap lam hr hgd e0 hb rv hR g rp act h => ?_⟩
  obtain ⟨oc, od, kV, doc, pm, an, cdv, ct, osl, rfl, lk, hcd⟩ := Fu.ex
  have hN : [D.clo kk cap].length ≤ N.length := by
    have := congrArg List.length S.pre
    rw [List.length_take] at this
    simp only [List.length_cons, List.length_nil] at this ⊢
    omega
  refine LamX.run_ofS (ps := [a]) (us := [u]) (vs := [v]) lk hcd S hr e0 hb rv rfl fun hr' => ?_
  have C : Cok (cxOf (L2.CX P w) P w K mg base N x (defScope st) f cdv A outer s H E) := ⟨rfl, by have := hr'.un; show (A.deeper (envOfC x (defScope st) s.heap.objs.size f cdv)).units + 200 < cLine; omega, hgd, S.nd, PassesOwn.leaving⟩
  have tk : Takes (cxOf (L2.CX P w) P w K mg base N x (defScope st) f cdv A outer s H E) (wX (cgOf R E sub (Fs lam)).W) := (takes_of rfl rfl rfl rfl).imp fun c d σ H ⟨_, z⟩ => z
  exact ⟨_, (hbody cdv A outer s H E R lam hR C hr' tk (act cdv)).run, fn_run g (.cons rp .nil) hN h⟩
/-- the frame of the owner, from the side of a callee that got the function kk -/
abbrev giveR (R : Rn) (kk : Nat) (vs : List V) : Rn := { R with lo := fun k' f c => if k' = kk then R.lo k' f c else none, wv := vs }
theorem giveR_sim {kk : Nat} {vs : List V} : Sim R (giveR R kk vs) := ⟨rfl, rfl, rfl, rfl, rfl, rfl⟩
/-- the call itself, wherever our frame stands -/
theorem fw_code {k k0 : Nat} {f : Addr} {fd : FuncData} {x : Str} {sg : Scope} {N : List Str} {a : Str} {ok : Rn → Prop} {FW : Lam → Fn} {lam : Lam} {ls : LamL} {caps : List (List Nat)} {pins : List (Addr × Obj)} {s1 : Shared} {H1 : Hp} {A : List Addr} {kk : Nat} {cap0 l : List D} {vs : List V} {q : Addr} {u : Value} {Q : VK} {E : XK}
    (C : Cok X) (FL : FnL X.prog X.w X.K X.mg X.base k f fd x sg N a ok FW) (hR : ok R) (okS : ∀ R S : Rn, Sim R S → ok R → ok S) (hr : Room k X.A) (hk0 : k0 + 2 ≤ k) (O : OwnL R X ls) (hL : ∀ kk p, ls[kk]? = some p → LamI ok X k0 p (caps.getD kk []) (lam kk))
    (bd : BindsTo s1 fd ⟨[u], []⟩ [(a, u)]) (I : Inv X pins σ H1 s1) (ru : Vals [.ref q] [u]) (gs : Good R [] [] H1 nL A) (rc : Rep R H1 (Bn R nL A) 0 (.clo kk cap0) (.ref q) []) (rl : Reps R H1 (Bn R nL A) 0 l vs []) (cv : CapV σ (caps.getD kk []) vs) (hnc : D.noClos l = true)
    (h : (FW lam [.clo kk l]).All fun r => r.noClo = true ∧ PostF R H1 (Bn R nL A) A Q E r) : codeAny (model X.prog X.w) X.A (.call (.ref f) ⟨[u], []⟩) (CR (L2.CX X.prog X.w) X.stack X.prog X.w H1 s1 Q E) s1 := by
  have sm : Sim R (giveR R kk vs) := giveR_sim
  simp only [Rep] at rc
  obtain ⟨_, q', eq, ⟨c, o, l1, l2, l3, l4, l5⟩, _⟩ := rc
  cases eq
  obtain ⟨pp, hpp, ho⟩ : ∃ pp, ls[kk]? = some pp ∧ o = FunO X.env.qual pp.1 pp.2.1 pp.2.2 (cloFrom X.env.cells pp.2.2.names []) q c := by
    rw [O.lo] at l1
    unfold lamTab at l1
    rw [Option.map_eq_some_iff] at l1
    obtain ⟨pp, h1, h2⟩ := l1
    exact ⟨pp, h1, h2.symm⟩
  have rS : Rep (giveR R kk vs) H1 (Bn (giveR R kk vs) nL A) 0 (.clo kk l) (.ref q) [] := by
    rw [sm.bnE]
    simp only [Rep]
    exact ⟨trivial, q, rfl, ⟨c, o, (if_pos rfl).trans l1, l2, l3, l4, l5⟩, Reps.sim sm 0 l vs [] hnc rl⟩
  refine FL.run X.A X.stack s1 H1 ⟨[u], []⟩ u (.ref q) Q E (giveR R kk vs) A kk l lam hr C.gd I.env0 bd ru (okS _ _ sm hR) (gs.sim0 sm) rS (fun cdv => ?_) (h.mono fun fo hfo => PostF.sim sm hfo.1 hfo.2)
  have hr2 : Room (k0 + 1) (X.A.deeper (envOfC x sg s1.heap.objs.size f cdv)) := (hr.mono hk0).deeper _
  refine act_of (kk := kk) (p := pp) (caps := caps.getD kk []) (vs := vs) C I (hL kk pp hpp) (okS _ _ sm hR) rfl cv O.lq (fun k' f' c' o' e' => ?_) hr2 FL.n0 FL.vis FL.db FL.cd
  by_cases hk' : k' = kk
  · refine ⟨hk', ?_⟩
    have e2 : R.lo k' f' c' = some o' := (if_pos hk').symm.trans e'
    rw [O.lo, hk'] at e2
    unfold lamTab at e2
    rw [hpp] at e2
    exact (Option.some.inj e2).symm
  · have e2 : none = some o' := (if_neg hk').symm.trans e'
    cases e2
/-- behind the argument: the function, what it takes, what is wanted -/
structure FwAt (R : Rn) (W : WD) (σ : St) (H0 : Hp) (B0 : Addr → Prop) (F : List Addr) (Fj : Fn) (caps : List (List Nat)) (H1 : Hp) (v : V) (Q : VK) : Prop where
  ex : ∃ (A : List Addr) (kk : Nat) (cap0 l : List D) (vs : List V) (q : Addr), v = .ref q ∧ Good R [] [] H1 nL A ∧ Rep R H1 (Bn R nL A) 0 (.clo kk cap0) (.ref q) [] ∧ Reps R H1 (Bn R nL A) 0 l vs [] ∧ CapV σ (caps.getD kk []) vs ∧ D.noClos l = true ∧ (Fj [.clo kk l]).All fun r => r.noClo = true ∧ PostF R H1 (Bn R nL A) A Q (WE (wX W) σ) r
theorem fw_arg {y : E} {j : Nat} {caps : List (List Nat)} {Q : VK} (h : tV g.R g.W (ev g.sub g.F (.fw j y caps)).val σ H Q) :
    tCons (tP g.R g.W (plOf y (ev g.sub g.F y).val)) tNil σ H fun vs H1 => ∃ (v : V) (H0 : Hp) (B0 : Addr → Prop) (F : List Addr), vs = [v] ∧ FwAt g.R g.W σ H0 B0 F (g.F j) caps H1 v Q := by
  obtain ⟨e, Ls, F, G, h⟩ := h
  have h : (mb (plOf y (ev g.sub g.F y).val) (fun p => mb (vlP p) (fwE (g.F j) caps)) e).All (PostV g.R g.W σ H (Bn g.R Ls F) F Q) := h
  refine tP_then G h (fun _ _ z => z) no_V fun pl e1 v H1 Ls1 Lt h1 st1 g1 p1 => ?_
  refine ⟨v, H, Bn g.R Ls F, F, rfl, ⟨?_⟩⟩
  obtain ⟨⟨n, d⟩, e2, Ls2, h2, g2, st2, r2⟩ := vlP_all g1 p1 (all_mb.mp h1) no_V
  have h2 : (fwE (g.F j) caps (n, d) e2).All (PostV g.R g.W σ H (Bn g.R Ls F) F Q) := h2
  have r2 : Rep g.R H1 (Bn g.R Ls2 F) 0 d v [] := r2
  match d, h2, r2 with
  | .clo kk cap0, h2, r2 =>
    have h2 : (mb (frzs (caps.getD kk [])) (fun l => tst (D.noClos l) (mb (ltr (g.F j [.clo kk l])) fun r => tst r.noClo (foE r))) e2).All (PostV g.R g.W σ H (Bn g.R Ls F) F Q) := h2
    obtain ⟨l, e3, Ls3, vs, h3, g3, st3, r3, cv⟩ := frzs_all g2 (all_mb.mp h2) no_V
    have h3 : (tst (D.noClos l) (mb (ltr (g.F j [.clo kk l])) fun r => tst r.noClo (foE r)) e3).All (PostV g.R g.W σ H (Bn g.R Ls F) F Q) := h3
    obtain ⟨hnc, h4⟩ := tst_all h3 no_V
    have st : Step H (Bn g.R Ls F) H1 (Bn g.R Ls3 F) F := ⟨st1.ext, st1.frm, fun a z => by
      rcases st3.bn a z with y | y
      · rcases st2.bn a y with q | q
        · exact st1.bn a q
        · obtain ⟨o, q2⟩ := g2.has a y
          rw [q] at q2; cases q2
      · obtain ⟨o, q⟩ := g3.has a z
        rw [y] at q; cases q⟩
    obtain ⟨A, gs, sA, post⟩ := call_at (W := g.W) (Q := Q) g3 st
    have rl : Reps g.R H1 (Bn g.R nL A) 0 l vs [] := Reps.by (L := []) sA (fun _ z => nomatch z) r3
    have rc := Rep.by (L := []) sA (fun _ z => nomatch z) (Rep.by (L := []) st3 (fun _ z => nomatch z) r2)
    have rc' := rc
    simp only [Rep] at rc'
    obtain ⟨_, q, rfl, _⟩ := rc'
    refine ⟨A, kk, cap0, l, vs, q, rfl, gs, rc, rl, cv, hnc, ?_⟩
    have h6 : ((g.F j [.clo kk l]).bind fun a => Tr.ret (Rs.ok a e3)).All (fun r => (mk (fun r => tst r.noClo (foE r)) r).All (PostV g.R g.W σ H (Bn g.R Ls F) F Q)) := all_mb.mp h4
    exact ((Tr.all_bind (f := fun a => Tr.ret (Rs.ok a e3))).mp h6).mono fun r hr => by
      have hr : (tst r.noClo (foE r) e3).All (PostV g.R g.W σ H (Bn g.R Ls F) F Q) := hr
      obtain ⟨hc, h7⟩ := tst_all hr no_V
      exact ⟨hc, post r h7⟩
/-- x(e): e is a function of ours -/
theorem je_fw {k k0 j : Nat} {f : Addr} {fd : FuncData} {x : Str} {sg : Scope} {N : List Str} {a : Str} {ok : Rn → Prop} {FW : Lam → Fn} {lam : Lam} {ls : LamL} {caps : List (List Nat)} {p pos : Pos} {b : Expr} {y : E} (C : Cok X) (FL : FnL X.prog X.w X.K X.mg X.base k f fd x sg N a ok FW) (hR : ok g.R) (okS : ∀ R S : Rn, Sim R S → ok R → ok S)
    (hF : g.F j = FW lam) (tk : Takes X (wX g.W)) (hr : Room k X.A) (hk0 : k0 + 2 ≤ k) (hg : Gl X x) (hm : X.mg x = some (.ref f)) (hk : PySem.W.keepIn X.K (.ref f) = true) (hb : L2.Binds X.K fd [a] []) (O : OwnL g.R X ls) (hL : ∀ kk p, ls[kk]? = some p → LamI ok X k0 p (caps.getD kk []) (lam kk)) (ha : JE g X b y)
    (hdb : (x == ("__debug__" : Str)) = false := by decide) (z : Pl1 X pos b [] := by exact {}) : JE g X (.Call (.Name x p) [b] [] pos) (.fw j y caps) := by
  refine .of ⟨fun pins s σ H Q I h => ?_⟩ (fun _ => rfl) rfl fun _ => rfl
  refine wpAny_Call_Name_kw (ld_glob I hg hm ?_ hdb)
  have hpa : PA X [b] (tCons (tP g.R g.W (plOf y (ev g.sub g.F y).val)) tNil) := pa_cons ha.plc pa_nil z.he
  refine PySem.W.callWith_K (h₀ := X.base) I.ok.mod.kin hk (thn (hpa.run pos pins s σ H _ I (fw_arg h)) fun us s1 hq => ?_) z.he z.hpl
  obtain ⟨vs0, H1, I1, r, v, H0, B0, F, rfl, ⟨A, kk, cap0, l, vs, q, rfl, gs, rc, rl, cv, hnc, h5⟩⟩ := hq
  refine ⟨I1.kIn, ?_⟩
  obtain ⟨u, hu⟩ : ∃ u, us = [u] := by
    match us, r.length with
    | [u], _ => exact ⟨u, rfl⟩
  subst hu
  have bd := hb s1 [u] I1.kIn rfl
  rw [List.append_nil] at bd
  rw [hF] at h5
  refine wpAny_call (codeAny_mono (fw_code C FL hR okS hr hk0 O hL bd I1 r gs rc rl cv hnc h5) fun r s' hq => ?_)
  match r, hq with
  | .error e, hq => exact passAt tk σ pins H1 s1 e s' I1 hq
  | .ok (.ret u), hq => exact I1.after hq
  | .ok .next, hq => exact hq.elim
  | .ok .brk, hq => exact hq.elim
  | .ok .cont, hq => exact hq.elim
end
end G

set_option maxHeartbeats 1000000
/-! G.Lam4: a def that makes lambdas. -/
namespace G
open PySem PySem.Spec PyProof.Rows L2 LamX
section
variable {sub : Nat → List Nat}
/-- what is known of the code object of a def with lambdas -/
structure CodT (base : Heap) (mg : Str → Option Value) (tb : List (Addr × Str)) (qual : Str) (fd : FuncData) : Prop where
  ex : ∃ c P, fd.code = .ref c ∧ TabB base mg c P ∧ (P, qual ++ ".<locals>." ++ "<lambda>") ∈ tb ∧ ∀ p ∈ tb, p.1 = P → p.2 = qual ++ ".<locals>." ++ "<lambda>"
theorem fnC_all {F : Fn} {ds : List D} {P : FO → Prop} (h : (fnC F ds).All P) (hn : ¬ P .no) : D.noClos ds = true ∧ (F ds).All fun r => r.noClo = true ∧ P r := by
  unfold fnC at h
  split at h
  · rename_i hc
    refine ⟨hc, (Tr.all_bind.mp h).mono fun r hr => ?_⟩
    split at hr
    · rename_i hz; exact ⟨hz, hr⟩
    · exact absurd hr hn
  · exact absurd h hn
abbrev ownR (R : Rn) (X : Cx) (ls : LamL) : Rn := { R with lo := lamTab X ls, lq := X.env.qual ++ "<lambda>", wv := [] }
theorem ownR_sim {R : Rn} {X : Cx} {ls : LamL} : Sim R (ownR R X ls) := ⟨rfl, rfl, rfl, rfl, rfl, rfl⟩
theorem fnG_own {P : Program} {w : World} {K : PySem.W.Frag} {mg : Str → Option Value} {base : Heap} {x qual : Str} {st : Stmt} {f : Addr} {fd : FuncData} {N ps : List Str} {k n : Nat} {ok : Rn → Prop} {tb : List (Addr × Str)} {Fs : Nat → Fn} {body : Ss} {ls : LamL} (Fu : Fun K x qual st f fd) (S : FnScope N ps (defScope st)) (hp : ps.length = n)
    (ct : CodT base mg tb qual fd) (okS : ∀ R S : Rn, Sim R S → ok R → ok S) (okT : ∀ R, ok R → R.tb = tb)
    (hbody : ∀ (cdv : Value) (A : Around) (outer : List PySem.Env) (s : Shared) (H : Hp) (E : XK) (R : Rn), ok R → OwnL R (cxOf (L2.CX P w) P w K mg base N qual (defScope st) f cdv A outer s H E) ls → Cok (cxOf (L2.CX P w) P w K mg base N qual (defScope st) f cdv A outer s H E) → Room k (A.deeper (envOfC qual (defScope st) s.heap.objs.size f cdv)) →
      Takes (cxOf (L2.CX P w) P w K mg base N qual (defScope st) f cdv A outer s H E) (wX (cgOf R E sub Fs).W) → JSs (cgOf R E sub Fs) (cxOf (L2.CX P w) P w K mg base N qual (defScope st) f cdv A outer s H E) (defBody st) body) :
    FnG P w K mg base (k + 1) f fd ps (fsp ok n (fnC (fnOf sub Fs N.length body))) := by
  refine ⟨fun vs H Q E h => ?_, fun A outer s H args us vs Q E hr hgd e0 hb rv h => ?_⟩
  · obtain ⟨R, hR, ds, F, g, r, hl, _⟩ := h
    rw [r.length, hl, hp]
  · obtain ⟨R, hR, ds, F, g, r, hl, h⟩ := h
    obtain ⟨oc, od, kV, doc, pm, an, cdv, ctv, osl, rfl, lk, hcd⟩ := Fu.ex
    have hvl : vs.length = ps.length := by rw [r.length, hl, hp]
    have hN : ds.length ≤ N.length := by
      have := congrArg List.length S.pre
      rw [List.length_take] at this
      omega
    refine LamX.run_ofS lk hcd S hr e0 hb rv hvl fun hr' => ?_
    have C : Cok (cxOf (L2.CX P w) P w K mg base N qual (defScope st) f cdv A outer s H E) := ⟨rfl, by have := hr'.un; show (A.deeper (envOfC qual (defScope st) s.heap.objs.size f cdv)).units + 200 < cLine; omega, hgd, S.nd, PassesOwn.leaving⟩
    obtain ⟨X, hX⟩ : ∃ X, X = cxOf (L2.CX P w) P w K mg base N qual (defScope st) f cdv A outer s H E := ⟨_, rfl⟩
    have sm : Sim R (ownR R X ls) := ownR_sim
    have tk : Takes (cxOf (L2.CX P w) P w K mg base N qual (defScope st) f cdv A outer s H E) (wX (cgOf (ownR R X ls) E sub Fs).W) := (takes_of rfl rfl rfl rfl).imp fun c d σ H ⟨_, z⟩ => z
    obtain ⟨hc, h⟩ := fnC_all h (fun z => z)
    have O : OwnL (ownR R X ls) (cxOf (L2.CX P w) P w K mg base N qual (defScope st) f cdv A outer s H E) ls := by
      rw [← hX]
      obtain ⟨c, P', h1, h2, h3, h4⟩ := ct.ex
      refine ⟨⟨c, P', ?_, ?_, ?_, ?_⟩, rfl, rfl, rfl⟩
      · rw [hX]; exact h2
      · rw [hX]; exact h1
      · show (P', X.env.qual ++ "<lambda>") ∈ R.tb
        rw [okT R hR, hX]
        exact h3
      · intro p hp e
        have hp : p ∈ R.tb := hp
        rw [okT R hR] at hp
        rw [hX]
        exact h4 p hp e
    refine ⟨_, (hbody cdv A outer s H E _ (okS _ _ sm hR) O C hr' tk).run, ?_⟩
    refine fn_run (R := ownR R X ls) (g.sim0 sm) (by rw [sm.bnE]; exact Reps.sim sm 0 ds vs [] hc r) hN (h.mono fun r hr => PostF.sim sm hr.1 hr.2)
end
end G
namespace G
open PySem PySem.Spec PyProof.Rows L2 LamX
theorem FnL.mono {P : Program} {w : World} {K : PySem.W.Frag} {mg : Str → Option Value} {base : Heap} {j k : Nat} {f : Addr} {fd : FuncData} {x : Str} {sg : Scope} {N : List Str} {a : Str} {ok : Rn → Prop} {FW : Lam → Fn} (h : FnL P w K mg base j f fd x sg N a ok FW) (hk : j ≤ k) : FnL P w K mg base k f fd x sg N a ok FW :=
  ⟨h.n0, h.vis, h.db, h.cd, fun A outer s H args u v Q E R F kk cap lam hr => h.run A outer s H args u v Q E R F kk cap lam (hr.mono hk)⟩
/-! ### parts of a text, by their places -/
abbrev e0 : Expr := .Name "" ⟨0, 0, 0, 0⟩
abbrev st0 : Stmt := .Pass ⟨0, 0, 0, 0⟩
def kidE (e : Expr) (i : Nat) : Expr := match e with
  | .BoolOp _ vs _ => vs.getD i e0
  | .BinOp a _ b _ => [a, b].getD i e0
  | .UnaryOp _ a _ => a
  | .Lambda _ b _ _ => b
  | .IfExp a b c _ => [a, b, c].getD i e0
  | .List l _ => l.getD i e0
  | .Tuple l _ _ => l.getD i e0
  | .ListComp a _ _ _ => a
  | .Compare a _ l _ => (a :: l).getD i e0
  | .Call f l _ _ => (f :: l).getD i e0
  | .Subscript a b _ => [a, b].getD i e0
  | .Attribute a _ _ => a
  | _ => e0
def kidSE (s : Stmt) : Expr := match s with
  | .If e _ _ _ => e
  | .For _ e _ _ _ => e
  | .While e _ _ _ => e
  | .Assign _ e _ => e
  | .AugAssign _ _ e _ => e
  | .Expr e _ => e
  | .Return (some e) _ => e
  | _ => e0
def kidSS (s : Stmt) (i : Nat) : Stmt := match s with
  | .If _ a b _ => (a ++ b).getD i st0
  | .For _ _ a _ _ => a.getD i st0
  | .While _ a _ _ => a.getD i st0
  | .Try a _ _ _ _ => a.getD i st0
  | _ => st0
def kidB (b : List Stmt) (i : Nat) : Stmt := b.getD i st0
def lamAt (e : Expr) : Arguments × Expr × Scope := match e with
  | .Lambda a b s _ => (a, b, s)
  | _ => (default, e0, default)
end G

set_option maxHeartbeats 2000000
/-! G.Lc2: a function of the frame is called in a comprehension of the frame. -/
namespace G
open PySem PySem.Spec PyProof.Rows L2 LamX
section
variable {X : Cx}
/-- the frame, as one of its blocks sees it -/
structure Around1 (X : Cx) (σ : St) (vs : List Nat) (s : Shared) (H : Hp) (fp : List Addr) : Prop where
  i : ∃ pins, Inv X pins σ H s ∧ ∀ b ∈ fp, FpOk X pins H b
/-- from a state of the block to one of the frame -/
theorem Around1.at {σ : St} {vs : List Nat} {s s' : Shared} {H H' : Hp} {fp : List Addr} {scope : Scope} {cenv : PySem.Env} {pB : List (Addr × Obj)} {σB : St} (o : Around1 X σ vs s H fp) (J : Inv (X.blk s H scope cenv fp) pB σB H' s') : ∃ pins, Inv X pins σ H' s' := by
  obtain ⟨pins, I, hf⟩ := o.i
  exact ⟨pins, I.call' (ch := fp) J.os J.base J.hok J.bare fun b hb => ⟨(hf b hb).2.2.2.1, (hf b hb).2.1, (hf b hb).2.2.2.2.1, (hf b hb).2.2.2.2.2⟩⟩
/-- an element's reading, in the block of this very frame -/
def PEof (X : Cx) (σ : St) (elt : Expr) (scope : Scope) (vs : List Nat) (te : TE) : Prop :=
  ∀ (s : Shared) (H : Hp) (C : Addr) (cl : List (Str × Addr)) (fp : List Addr), Around1 X σ vs s H fp → ∀ (pB : List (Addr × Obj)) (sB : Shared) (σB : St) (HB : Hp) (Q : VK), wipe σB vs = wipe σ vs → Inv (X.blk s H scope (compEnvC scope cl C X.env) fp) pB σB HB sB → te σB HB Q →
    wpAny (model X.prog X.w) X.A (eval elt (compEnvC scope cl C X.env)) (EP (X.blk s H scope (compEnvC scope cl C X.env) fp) pB σB Q) (fun _ _ => False) sB
theorem pe_lcO {elt tg iter : Expr} {ifs : List Expr} {scope : Scope} {own : List (Str × Nat)} {pos : Pos} {wi : TI} {g : TG} {tt : TT} {te : TE} (hc : X.calm = true) (hN : X.N.Nodup) (hi : PI X tg iter wi) (ok : BlkOk X.N X.env.scope scope own)
    (hg : ∀ (s : Shared) (H : Hp) (C : Addr) (cl : List (Str × Addr)) (fp : List Addr), PG (X.blk s H scope (compEnvC scope cl C X.env) fp) tg g) (ht : ∀ (s : Shared) (H : Hp) (C : Addr) (cl : List (Str × Addr)) (fp : List Addr), PTs (X.blk s H scope (compEnvC scope cl C X.env) fp) ifs tt)
    (he : ∀ σ : St, PEof X σ elt scope (own.map (·.2)) te) (hs : ∀ x, foldedSetIterable iter X.env x = pure x := by intro _; rfl) :
    PE X (.ListComp elt [⟨tg, iter, ifs, 0⟩] scope pos) (tLc wi g tt te (own.map (·.2))) := by
  refine ⟨fun pins s σ H Q I h => ?_⟩
  have hfree : ∀ y ∈ scope.names, y.2 = .free → ∃ c, X.env.cells.lookup y.1 = some c := fun y hy e => (ok.free y hy e).elim (fun k => I.ok.has _ (.inl k)) fun k => I.ok.has _ (.inr k)
  rw [eval_ListComp]
  refine wpAny_comprehension_free rfl hs (closure_ok hfree) ok.kind (fun y hy e => by rw [ok.uniq y hy, e]) (thn (hi.run pins s σ H _ I h) fun xv s1 hx => thn hx fun itv s2 h2 => ?_)
  obtain ⟨it, fp, tn, J, H2, e, I2, T, st2, f2, q⟩ := h2
  subst e
  refine wpAny_newObj_type (newEnv_comp ?_) (by show 0 ≤ sizeLine; decide)
  generalize hD : s2.heap.objs.size = D
  have hDn : H2 D = none := I2.hok.fresh (Nat.le_of_eq hD)
  obtain ⟨W, ⟨m0, w0⟩, turn⟩ := q D hDn
  generalize hs3 : ({ s2 with heap := s2.heap.push { cls := .type "list", data := .seq ([] : List Value).toArray } } : Shared) = s3
  have I3 : Inv X pins σ (upd H2 D (.lst [])) s3 := by
    rw [← hs3]
    exact I2.laid (t' := s2.toks) (fun b o e => Heap.get?_push_of_some _ e) (Nat.le_of_eq hD) ⟨Nat.zero_le _, [], 0, .nil, by rw [← hD]; exact Heap.get?_push_size _ rfl⟩
  have h3 : s3.heap = s2.heap.push { cls := .type "list", data := .seq ([] : List Value).toArray } := by rw [← hs3]
  have sz : ∀ b ∈ fp, b < s2.heap.objs.size := fun b hb => by
    obtain ⟨o, e, _⟩ := T.obj _ _ st2 b hb
    exact Heap.lt_size e
  have f3 : ∀ b ∈ fp, FpOk X pins (upd H2 D (.lst [])) b ∧ b < s3.heap.objs.size := fun b hb => by
    have hlt := sz b hb
    refine ⟨⟨?_, (f2 b hb).2⟩, by rw [h3, Heap.size_push]; exact Nat.lt_succ_of_lt hlt⟩
    rw [upd_ne (by rw [← hD]; exact Nat.ne_of_lt hlt)]
    exact (f2 b hb).1
  have st3 : tn 0 s3.heap := T.keep _ _ _ st2 fun b _ o e => by rw [h3]; exact Heap.get?_push_of_some _ e
  have I4 := block_start I3 ok hN f3
  generalize hcl : cellsFrom (s3.heap.objs.size + 1) scope.names (cloFrom X.env.cells scope.names []) = cl at I4
  have pg := hg s3 (upd H2 D (.lst [])) s3.heap.objs.size cl fp
  have pt := ht s3 (upd H2 D (.lst [])) s3.heap.objs.size cl fp
  have pe := he σ s3 (upd H2 D (.lst [])) s3.heap.objs.size cl fp ⟨pins, I3, fun b hb => (f3 b hb).1⟩
  have nfp : ∀ b ∈ fp, (upd H2 D (.lst [])) b = none := fun b hb => (f3 b hb).1.1
  subst hcl
  show codeAny _ _ (.compStart (.ListComp elt [⟨tg, iter, ifs, 0⟩] scope pos) 0 (.ref it) (.ref D) (compEnvC scope (cellsFrom (s3.heap.objs.size + 1) scope.names (cloFrom X.env.cells scope.names [])) s3.heap.objs.size X.env)) (compPost (model X.prog X.w) X.A X.xe none (EP X pins σ Q) (.ref D) s3.heap.objs.size) { s3 with heap := pushCells (s3.heap.push { cls := .type "dict", data := .dict #[] }) scope.names }
  generalize hce : compEnvC scope (cellsFrom (s3.heap.objs.size + 1) scope.names (cloFrom X.env.cells scope.names [])) s3.heap.objs.size X.env = ce at I4 pg pt pe ⊢
  have cL : ce.locals = s3.heap.objs.size := by subst hce; rfl
  generalize hH3 : upd H2 D (.lst []) = H3 at I3 I4 pg pt pe w0 nfp f3
  generalize hs4 : ({ s3 with heap := pushCells (s3.heap.push { cls := .type "dict", data := .dict #[] }) scope.names } : Shared) = s4 at I4 ⊢
  have st4 : tn 0 s4.heap := T.keep _ _ _ st3 fun b _ o e => by rw [← hs4]; exact pushCells_keeps _ _ _ _ (Heap.get?_push_of_some _ e)
  have stat : ∀ {σ' : St} {H' : Hp} {s' : Shared}, Inv (X.blk s3 H3 scope ce fp) [] σ' H' s' → (∀ b ∈ fp, H' b = none) → ∀ b ∈ fp, FpOk (X.blk s3 H3 scope ce fp) [] H' b := fun {σ' H' s'} I' hn b hb =>
    ⟨hn b hb, (I'.ok.exf b hb).1, I'.ok.exfs b hb, .inl hb, fun x c e => (I'.ok.exf b hb).2 x c e, fun p hp => absurd (show p ∈ ([] : List (Addr × Obj)) ++ [] from hp) (by simp)⟩
  have loop : codeAny (model X.prog X.w) X.A (.compLoop (.ListComp elt [⟨tg, iter, ifs, 0⟩] scope pos) 0 (.ref it) (.ref D) ce) (compPost (model X.prog X.w) X.A X.xe none (EP X pins σ Q) (.ref D) s3.heap.objs.size) s4 := by
    refine compLoop_any (fun n s' => ∃ i H', Inv (X.blk s3 H3 scope ce fp) [] (wipe σ (own.map (·.2))) H' s' ∧ tn i s'.heap ∧ (∀ b ∈ fp, H' b = none) ∧ W i n H') ?_ m0 ⟨0, H3, I4, st4, nfp, w0⟩
    rintro n s5 ⟨i, H5, I5, st5, n5, w5⟩
    rcases turn i n H5 w5 with ⟨stop, qq⟩ | ⟨go, Nx, hNx, step⟩
    · refine thnF (T.done (X.blk s3 H3 scope ce fp) rfl rfl rfl hc i [] s5 _ H5 (fun _ _ => False) I5 (stat I5 n5) st5 stop) fun r s6 ⟨hr, I6⟩ => ?_
      subst hr
      have I7 : Inv X pins σ H5 s6 := I3.call' (ch := fp) I6.os I6.base I6.hok I6.bare fun b hb => ⟨(f3 b hb).1.2.2.2.1, (f3 b hb).1.2.1, (f3 b hb).1.2.2.2.2.1, (f3 b hb).1.2.2.2.2.2⟩
      have nC : H5 s3.heap.objs.size = none := by rw [← cL]; exact I6.free
      obtain ⟨m, hn, _⟩ := I6.loc
      refine ⟨m, by rw [← cL]; exact hn, fun h'' sb => ?_⟩
      obtain ⟨g0, g1, g2, g3, g4, g5⟩ := I3.fpOk (Nat.le_refl _) nC
      exact ⟨.ref D, H5, I7.turned (t' := s6.toks) (fun b o hb e => (sb.2 b hb).trans e) g0 g1 g3 g4 g5, rfl, qq⟩
    · refine thnF (T.item (X.blk s3 H3 scope ce fp) rfl rfl rfl hc i [] s5 _ H5 (fun _ _ => False) I5 (stat I5 n5) st5 go) fun r s6 ⟨u, hr, h6⟩ => ?_
      subst hr
      refine thnF h6 fun _ s7 ⟨x, H7, I7, r7, y7, st7, n7⟩ => ?_
      have I7' := I7.pinned (stat I7 n7) (T.obj _ _ st7)
      refine thnF (pg.run _ s7 _ H7 x u _ I7' r7 (step x H7 y7)) fun _ s8 ⟨σ8, H8, I8, hw8, q8⟩ => ?_
      refine thnF (pt.run _ s8 σ8 H8 _ I8 q8) fun b s9 ⟨H9, I9, q9⟩ => ?_
      have fin : ∀ {s' : Shared} {H' : Hp}, Inv (X.blk s3 H3 scope ce fp) ([] ++ pinsAt fp s7.heap) σ8 H' s' → Nx H' → ∃ m, m < n ∧ ∃ i H', Inv (X.blk s3 H3 scope ce fp) [] (wipe σ (own.map (·.2))) H' s' ∧ tn i s'.heap ∧ (∀ b ∈ fp, H' b = none) ∧ W i m H' := fun {s' H'} I' nx => by
        obtain ⟨m', hm, w'⟩ := hNx H' nx
        have pin' : ∀ b ∈ fp, ∀ o, s7.heap.get? b = some o → s'.heap.get? b = some o ∧ H' b = none := fun b hb o e =>
          let z := I'.pin (b, o) (List.mem_append_right _ (List.mem_append_right _ (mem_pinsAt hb e)))
          ⟨z.1, z.2.1⟩
        refine ⟨m', hm, i + 1, H', (I'.unpinned (pins := [])).weak (by rw [← hw8, wipe_length]) (fun j v e => (wipe_some (by rw [hw8]; exact e)).1), T.keep _ _ _ st7 fun b hb o e => (pin' b hb o e).1, fun b hb => ?_, w'⟩
        obtain ⟨o, e, _⟩ := T.obj _ _ st7 b hb
        exact (pin' b hb o e).2
      cases b with
      | false =>
        simp only [Bool.false_eq_true, if_false] at q9 ⊢
        exact fin I9 q9
      | true =>
        simp only [if_true] at q9 ⊢
        refine thnF (pe _ s9 σ8 H9 _ hw8 I9 q9) fun z s10 ⟨yv, H10, I10, r10, acc, hD10, hz10, nx⟩ => ?_
        exact app_ok (X := X.blk s3 H3 scope ce fp) I10 hD10 hz10 r10 fun s11 I11 => fin I11 nx
  exact codeAny_compStart_list loop (T.self X.A 0 _ _ _ st4 loop)
theorem CapV.wiped {σ σB : St} {own : List Nat} (hw : wipe σB own = wipe σ own) : ∀ {is : List Nat} {vs : List V}, (∀ i ∈ is, i ∉ own) → CapV σB is vs → CapV σ is vs
  | [], [], _, h => h
  | [], _ :: _, _, h => h.elim
  | _ :: _, [], _, h => h.elim
  | i :: is, v :: vs, hd, h => by
    refine ⟨?_, CapV.wiped hw (fun j hj => hd j (List.mem_cons_of_mem _ hj)) h.2⟩
    have hi := hd i List.mem_cons_self
    rw [← wipe_get hi, ← hw, wipe_get hi]
    exact h.1
theorem je_lcfw {g : Cg} {k k0 j : Nat} {f : Addr} {fd : FuncData} {x : Str} {sg : Scope} {N : List Str} {a : Str} {ok : Rn → Prop} {FW : Lam → Fn} {lam : Lam} {ls : LamL} {caps : List (List Nat)} {p cpos : Pos} {b : Expr} {y : E} {tg iter : Expr} {ifs : List Expr} {scope : Scope} {own : List (Str × Nat)} {pos : Pos} {o : It} {es cs : Es} {is : List Nat}
    (C : Cok X) (FL : FnL X.prog X.w X.K X.mg X.base k f fd x sg N a ok FW) (hR : ok g.R) (okS : ∀ R S : Rn, Sim R S → ok R → ok S) (hF : g.F j = FW lam) (hr : Room k X.A) (hk0 : k0 + 2 ≤ k) (hm : X.mg x = some (.ref f)) (hk : PySem.W.keepIn X.K (.ref f) = true) (hb : L2.Binds X.K fd [a] []) (O : OwnL g.R X ls)
    (hL : ∀ kk p, ls[kk]? = some p → LamI ok X k0 p (caps.getD kk []) (lam kk)) (hi : JI g X tg iter o es)
    (hg : ∀ (s : Shared) (H : Hp) (A : Addr) (cl : List (Str × Addr)) (fp : List Addr), Cok (X.blk s H scope (compEnvC scope cl A X.env) fp) → JG g.inn (X.blk s H scope (compEnvC scope cl A X.env) fp) tg is)
    (ht : ∀ (s : Shared) (H : Hp) (A : Addr) (cl : List (Str × Addr)) (fp : List Addr), Cok (X.blk s H scope (compEnvC scope cl A X.env) fp) → JTs g.inn (X.blk s H scope (compEnvC scope cl A X.env) fp) ifs cs)
    (ha : ∀ (s : Shared) (H : Hp) (A : Addr) (cl : List (Str × Addr)) (fp : List Addr), Cok (X.blk s H scope (compEnvC scope cl A X.env) fp) → JE g.inn (X.blk s H scope (compEnvC scope cl A X.env) fp) b y)
    (hgl : ∀ (s : Shared) (H : Hp) (A : Addr) (cl : List (Str × Addr)) (fp : List Addr), Gl (X.blk s H scope (compEnvC scope cl A X.env) fp) x := by exact fun _ _ _ _ _ => rfl)
    (dis : ∀ (kk i : Nat), i ∈ caps.getD kk [] → i ∉ own.map (·.2))
    (okB : BlkOk X.N X.env.scope scope own := by exact blkOk_by (by rfl)) (hto : ∀ i ∈ is, i ∈ own.map (·.2) := by decide) (hs : ∀ x, foldedSetIterable iter X.env x = pure x := by intro _; rfl) (hdb : (x == ("__debug__" : Str)) = false := by decide)
    (z : ∀ (s : Shared) (H : Hp) (A : Addr) (cl : List (Str × Addr)) (fp : List Addr), Pl1 (X.blk s H scope (compEnvC scope cl A X.env) fp) cpos b [] := by exact fun _ _ _ _ _ => {}) :
    JE g X (.ListComp (.Call (.Name x p) [b] [] cpos) [⟨tg, iter, ifs, 0⟩] scope pos) (.lc own is o es cs (.fw j y caps)) := by
  refine .of ((pe_lcO C.calm C.nd hi okB (fun s H A cl fp => hg s H A cl fp (C.blk ..)) (fun s H A cl fp => ht s H A cl fp (C.blk ..)) (fun σ s H A cl fp ar pB sB σB HB Q hw J h => ?_) hs).imp fun σ H Q z => lc_run hto z) (fun _ => rfl) rfl fun _ => rfl
  have hab := ha s H A cl fp (C.blk ..)
  have hgb := hgl s H A cl fp
  have zb := z s H A cl fp
  generalize hce : compEnvC scope cl A X.env = ce at J hab hgb zb ⊢
  show wpAny (model (X.blk s H scope ce fp).prog (X.blk s H scope ce fp).w) (X.blk s H scope ce fp).A (eval (.Call (.Name x p) [b] [] cpos) (X.blk s H scope ce fp).env) (EP (X.blk s H scope ce fp) pB σB Q) (fun _ _ => False) sB
  refine wpAny_Call_Name_kw (ld_glob J hgb hm ?_ hdb)
  have hpa : PA (X.blk s H scope ce fp) [b] (tCons (tP g.inn.R g.inn.W (plOf y (ev g.inn.sub g.inn.F y).val)) tNil) := pa_cons hab.plc pa_nil zb.he
  refine PySem.W.callWith_K (h₀ := X.base) J.ok.mod.kin hk (thn (hpa.run cpos pB sB σB HB _ J (fw_arg (g := g.inn) h)) fun us s1 hq => ?_) zb.he zb.hpl
  obtain ⟨vs0, H1, I1, r, v, H0, B0, F, rfl, ⟨A', kk, cap0, l, vs, q, rfl, gs, rc, rl, cv, hnc, h5⟩⟩ := hq
  refine ⟨I1.kIn, ?_⟩
  obtain ⟨u, hu⟩ : ∃ u, us = [u] := by
    match us, r.length with
    | [u], _ => exact ⟨u, rfl⟩
  subst hu
  have bd := hb s1 [u] I1.kIn rfl
  rw [List.append_nil] at bd
  have hF' : g.inn.F j = FW lam := hF
  rw [hF'] at h5
  obtain ⟨pins, I0⟩ := ar.at I1
  refine wpAny_call (codeAny_mono (fw_code (X := X) C FL hR okS hr hk0 O hL bd I0 r gs rc rl (cv.wiped hw (dis kk)) hnc h5) fun r s' hq => ?_)
  match r, hq with
  | .error e, hq =>
    obtain ⟨_, _, _, _, _, _, _, _, _, _, _, _, _, z⟩ := hq
    exact z.elim
  | .ok (.ret u), hq => exact I1.after hq
  | .ok .next, hq => exact hq.elim
  | .ok .brk, hq => exact hq.elim
  | .ok .cont, hq => exact hq.elim
end
end G
namespace G
theorem withF_eq {T : Nat → Fn} {j : Nat} {W : Fn} : withF T j W j = W := if_pos rfl
theorem withF_ne {T : Nat → Fn} {i j : Nat} {W : Fn} (h : i ≠ j) : withF T j W i = T i := if_neg h
theorem caps_dis {caps : List (List Nat)} {own : List Nat} (h : (caps.all fun c => c.all fun i => !(own.contains i)) = true) : ∀ kk i : Nat, i ∈ caps.getD kk [] → i ∉ own := fun kk i hi ho => by
  rw [List.getD_eq_getElem?_getD] at hi
  cases e : caps[kk]? with
  | none => rw [e] at hi; cases hi
  | some c =>
    rw [e] at hi
    have h1 := List.all_eq_true.mp h c (List.mem_of_getElem? e)
    have h2 := List.all_eq_true.mp h1 i hi
    rw [Bool.not_eq_true'] at h2
    rw [List.contains_iff_mem.mpr ho] at h2
    cases h2
end G

set_option maxHeartbeats 400000
/-! G.End: the head's facts, a law's end. -/
namespace G
open PySem PySem.Spec PyProof.Rows L2
/-- no list -/
def noL (o : Obj) : Bool := !(match o.cls with | .type "list" => true | _ => false)
/-- an empty table of code objects -/
def isT0 (o : Obj) : Bool := match o with
  | ⟨.none, none, .fields vs, sl⟩ => vs.isEmpty && sl.isEmpty
  | _ => false
theorem isT0_ok {o : Obj} (h : isT0 o = true) : o = { cls := .none, data := .fields #[] } := by
  unfold isT0 at h
  split at h
  · rename_i vs sl
    simp only [Bool.and_eq_true, Array.isEmpty_iff] at h
    obtain ⟨rfl, rfl⟩ := h
    rfl
  · cases h
def noT (o : Obj) : Bool := noL o && !isT0 o
def frN (f : Addr → Option Obj) (as : List Addr) : PySem.W.Frag := (He.frG f as).filter fun q => noT q.2
theorem frG_mem' {f : Addr → Option Obj} {as : List Addr} {a : Addr} {o : Obj} (h : (a, o) ∈ He.frG f as) : f a = some o := by
  obtain ⟨b, _, e⟩ := List.mem_filterMap.mp h
  cases hb : f b with
  | none => rw [hb] at e; cases e
  | some u =>
    rw [hb] at e
    cases e
    exact hb
theorem look_mem {a : Addr} {o : Obj} : ∀ {l : List (Addr × Obj)}, l.lookup a = some o → (a, o) ∈ l
  | [], h => by cases h
  | (b, u) :: r, h => by
    rw [List.lookup_cons] at h
    split at h
    · rename_i q
      cases h
      rw [beq_iff_eq.mp q]
      exact List.mem_cons_self
    · exact List.mem_cons_of_mem _ (look_mem h)
theorem frN_mem {f : Addr → Option Obj} {as : List Addr} {a : Addr} {o : Obj} (h : (frN f as).lookup a = some o) : f a = some o ∧ noT o = true := by
  obtain ⟨h1, h2⟩ := List.mem_filter.mp (look_mem h)
  exact ⟨frG_mem' h1, h2⟩
/-- the tables of these defs, their code objects -/
def csOf (K : PySem.W.Frag) (tx : List Str) : List (Addr × Addr) := tx.map fun x => (PySem.W.tabIn K x).getD (0, 0)
/-- the tables, the names that they tell -/
def tbOf (K : PySem.W.Frag) (tx : List Str) : List (Addr × Str) := tx.map fun x => (((PySem.W.tabIn K x).getD (0, 0)).2, x ++ ".<locals>." ++ "<lambda>")
/-- what is asked of them -/
def tbB (K : PySem.W.Frag) (tx : List Str) : Bool := (tx.all fun x => match PySem.W.tabIn K x with | some (c, P) => PySem.W.codeHdIn K c P | none => false) && decide ((csOf K tx).map (·.2)).Nodup
def t0B (K : PySem.W.Frag) (f : Addr → Option Obj) (tx : List Str) : Bool := (csOf K tx).all fun p => match f p.2 with | some o => isT0 o | none => false
section
variable (bx : PySem.W.Frag → Bool) (tx : List Str) (fa : List He.Fa) (fn : List He.DefD)
abbrev AlX : Type := Bool × Bool × He.AlD
def obsX (K : PySem.W.Frag) (f : Addr → Option Obj) : AlX := (bx K, t0B K f tx, He.obsD fa fn K)
def valX : AlX := (true, true, He.valD fn)
def obsXG (n : Nat) (f : Addr → Option Obj) : AlX := obsX bx tx fa fn (frN f (cStatics :: He.asD f n)) f
/-- what the end leans on -/
structure SaysX (K : PySem.W.Frag) : Prop where
  b : bx K = true
  d : He.SaysD fa fn K
  l : ∀ a o, K.lookup a = some o → noT o = true
structure SaysT0 (K : PySem.W.Frag) (h : Heap) : Prop where
  t : ∀ p ∈ csOf K tx, h.get? p.2 = some { cls := .none, data := .fields #[] }
def hookX (n : Nat) : PySem.W.Hook where
  α := AlX
  obs := fun s => obsXG bx tx fa fn n s.heap.get?
  val := fun _ => valX fn
  says := fun _ h => ∃ K : PySem.W.Frag, K.In h ∧ SaysX bx fa fn K ∧ SaysT0 tx K h
  of := fun _ s e => ⟨frN s.heap.get? (cStatics :: He.asD s.heap.get? n), fun a o q => (frN_mem q).1, ⟨congrArg (fun z : AlX => z.1) e, congrArg (fun z : AlX => z.2.2) e, fun a o q => (frN_mem q).2⟩, ⟨fun p hp => by
    have h := congrArg (fun z : AlX => z.2.1) e
    have h : t0B (frN s.heap.get? (cStatics :: He.asD s.heap.get? n)) s.heap.get? tx = true := h
    have h := List.all_eq_true.mp h p hp
    split at h
    · rename_i o ho
      rw [ho, isT0_ok h]
    · cases h⟩⟩
  keeps := fun _ _ _ ⟨K, hK, c, t⟩ k => ⟨K, PySem.W.Frag.In.keeps hK k, c, ⟨fun p hp => k _ _ (t.t p hp)⟩⟩
theorem obsXG_eq {n : Nat} {f : Addr → Option Obj} {s : Shared} (h : ∀ a, f a = s.heap.get? a) : obsXG bx tx fa fn n f = (hookX bx tx fa fn n).obs s := by
  have e : f = s.heap.get? := funext h
  rw [e] <;> rfl
end
theorem noT_noL {o : Obj} (h : noT o = true) : noL o = true := by
  unfold noT at h
  exact (Bool.and_eq_true_iff.mp h).1
/-- a def of the text by the head -/
theorem fun_of {K : PySem.W.Frag} {x qual : Str} {st : Stmt} {f : Addr} {fd : FuncData} (F : FunD K x qual (defArgs st) (defBody st) (defScope st) [] [] f fd) : Fun K x qual st f fd := by
  obtain ⟨oc, od, dV, kV, doc, pm, an, cdv, ct, osl, rfl, lk, hcd, hD, hK⟩ := F.ex
  rcases hD with ⟨_, rfl⟩ | ⟨e, _⟩
  · exact ⟨⟨oc, od, kV, doc, pm, an, cdv, ct, osl, rfl, lk, hcd⟩, F.kp⟩
  · exact absurd rfl e
/-- the law called: cs, the code objects with tables, and these -/
theorem law_callG {P : Program} {w : World} {K : PySem.W.Frag} {mg mb : Str → Option Value} {k : Nat} {fa a : Addr} {cs : List (Addr × Addr)} {fd : FuncData} {x : Str} {sp : Sp} {s₁ : Shared} {vs : List Value} {ns : List Int}
    (KX : K.In s₁.heap) (hnl : ∀ a o, K.lookup a = some o → noT o = true) (hns : s₁.heap.Ns mainGlobals mg) (hb : s₁.heap.Ns builtinsNs mb) (hbb : ∀ x : Str, x ≠ "__name__" → mb x = bootBuiltins x) (hlim : s₁.heap.NoLimit) (hg : s₁.gens = #[])
    (hT : ∀ p ∈ cs, s₁.heap.get? p.2 = some { cls := .none, data := .fields #[] }) (C : ∀ p ∈ cs, PySem.W.CodeHd s₁.heap p.1 p.2)
    (hbm : ∃ (bm : Addr) (ob : Obj), mg "__builtins__" = some (.ref bm) ∧ bm ≠ builtinsNs ∧ s₁.heap.get? bm = some ob ∧ ob.cls = .type "module" ∧ ob.dict = some builtinsNs ∧ ob.data = .plain)
    (ha : s₁.heap.get? a = some { cls := .type "list", data := .seq vs.toArray }) (hi : IntsAre vs ns) (hl : ns.length ≤ sizeLine) (hr : Room k callerA)
    (F : ∀ base : Heap, K.In base → base.Ns mainGlobals mg → (∀ p ∈ cs, LamX.TabB base mg p.1 p.2) → FnG P w K mg base k fa fd [x] sp) (hbind : ∀ (s : Shared) (u : Value), BindsTo s fd ⟨[u], []⟩ [(x, u)])
    (hsp : ∀ (H : Hp) (o : Obj), (∀ b, b ≠ a → b ∉ cs.map (·.2) → H b = none) → (∀ p ∈ cs, H p.2 = some (.tbl #[])) → H a = some (.frz o (.lst (ns.map V.int))) → sp [.ref a] H (fun v _ => v = .bl true) fun _ _ _ => False) :
    codeAny (model P w) callerA (.call (.ref fa) ⟨[.ref a], []⟩) (fun r s' => r = .ok (.ret (.bool true)) ∧ OldK s₁.heap s'.heap ∧ s'.os = s₁.os ∧ AllBare s'.gens) s₁ := by
  have rv := vals_ints hi
  have isT : ∀ b : Addr, b ∈ cs.map (·.2) → s₁.heap.get? b = some { cls := .none, data := .fields #[] } := fun b hb => by
    obtain ⟨p, hp, e⟩ := List.mem_map.mp hb
    rw [← e]
    exact hT p hp
  have aT : a ∉ cs.map (·.2) := fun z => by
    have q := isT a z
    rw [ha] at q
    have z' : Data.seq vs.toArray _ = Data.fields #[] := congrArg Obj.data (Option.some.inj q)
    cases z'
  have memT : ∀ p ∈ cs, p.2 ∈ cs.map (·.2) := fun p hp => List.mem_map.mpr ⟨p, hp, rfl⟩
  have hk : K.lookup a = none := by
    cases e : K.lookup a with
    | none => rfl
    | some o =>
      have z := KX a o e
      rw [ha] at z
      cases z
      exact absurd (noT_noL (hnl a _ e)) (by simp [noL])
  have nT : ∀ b, b ∈ cs.map (·.2) → K.lookup b = none := fun b hb => by
    cases e : K.lookup b with
    | none => rfl
    | some o =>
      have z := KX b o e
      rw [isT b hb] at z
      cases z
      exact absurd (hnl b _ e) (by simp [noT, isT0, noL])
  generalize hO : ({ cls := .type "list", data := .seq vs.toArray } : Obj) = ob at ha
  obtain ⟨H, hH⟩ : ∃ H : Hp, H = fun b => if b = a then some (.frz ob (.lst (ns.map V.int))) else if b ∈ cs.map (·.2) then some (.tbl #[]) else none := ⟨_, rfl⟩
  have Ha : H a = some (.frz ob (.lst (ns.map V.int))) := by rw [hH]; exact if_pos rfl
  have Hn : ∀ b, b ≠ a → b ∉ cs.map (·.2) → H b = none := fun b h h2 => by rw [hH]; exact (if_neg h).trans (if_neg h2)
  have HT : ∀ b, b ∈ cs.map (·.2) → H b = some (.tbl #[]) := fun b h => by
    rw [hH]
    exact (if_neg (show ¬ b = a from fun z => aT (by rw [← z]; exact h))).trans (if_pos h)
  have hok : HOk P w H s₁.heap := fun b u z => by
    by_cases h : b = a
    · subst h
      rw [Ha] at z
      cases z
      subst hO
      exact ⟨ha, by rw [List.length_map]; exact hl, vs, _, rv, ha⟩
    · by_cases h2 : b ∈ cs.map (·.2)
      · rw [HT b h2] at z
        cases z
        exact isT b h2
      · rw [Hn b h h2] at z
        cases z
  have bo : ∀ {b : Addr} {o : Obj}, s₁.heap.get? b = some o → H b = none → (hidT s₁.heap H).get? b = some o := fun e n => hidT_get e n
  have noD : ∀ {b : Addr} {o : Obj}, s₁.heap.get? b = some o → (∀ vs n, o.data ≠ .seq vs n) → o.data ≠ .fields #[] → H b = none := fun {b o} e h1 h2 => by
    refine Hn b (fun z => ?_) fun z => ?_
    · rw [z, ha] at e
      cases e
      subst hO
      exact h1 _ _ rfl
    · rw [isT b z] at e
      cases e
      exact h2 rfl
  have nsK : ∀ {b : Addr} {m : Str → Option Value}, s₁.heap.Ns b m → (hidT s₁.heap H).Ns b m := fun {b m} ⟨o, es, ep, e, d, r⟩ => ⟨o, es, ep, bo e (noD e (fun vs n z => by rw [d] at z; cases z) fun z => by rw [d] at z; cases z), d, r⟩
  have hKb : K.In (hidT s₁.heap H) := fun b o e => bo (KX b o e) (Hn b (fun z => by rw [z, hk] at e; cases e) fun z => by rw [nT b z] at e; cases e)
  have hM : Mod K mg (hidT s₁.heap H) := ⟨hKb, nsK hns, ⟨mb, nsK hb, hbb⟩, let ⟨mc, h1, h2⟩ := hlim; ⟨mc, nsK h1, h2⟩⟩
  have TB : ∀ p ∈ cs, LamX.TabB (hidT s₁.heap H) mg p.1 p.2 := fun p hp => by
    have hTp := hT p hp
    refine ⟨?_, ?_, fun z => ?_⟩
    · obtain ⟨o, us, file, tf, flags, tg, inF, text, tt, e1, r1, r2, r3, r4, r5, r6, r7, r8, hne⟩ := C p hp
      refine ⟨o, us, file, tf, flags, tg, inF, text, tt, bo e1 (noD e1 (fun vs n z => ?_) fun z => ?_), r1, r2, r3, r4, r5, r6, r7, r8, hne⟩
      · rw [r2] at z
        cases z
      · rw [r2] at z
        cases z
        simp at r3
    · obtain ⟨bm, ob, b1, b2, b3, b4, b5, b6⟩ := hbm
      have nG : bm ≠ mainGlobals := fun q => by
        obtain ⟨o, es, ep, e, hd, _⟩ := hns
        rw [q, e] at b3
        cases b3
        rw [hd] at b6
        cases b6
      have nP : bm ≠ p.2 := fun q => by
        rw [q, hTp] at b3
        cases b3
        cases b6
      refine ⟨bm, ob, b1, b2, nG, nP, bo b3 (noD b3 (fun vs n z => ?_) fun z => ?_), b4, b5, b6⟩
      · rw [b6] at z
        cases z
      · rw [b6] at z
        cases z
    · obtain ⟨o, es, ep, e, hd, _⟩ := hns
      rw [z, hTp] at e
      cases e
      cases hd
  have e0 : Env0 P w K mg (hidT s₁.heap H) callerA [] s₁ H := ⟨rfl, hM, fun b o e => of_hidT e, Nat.le_of_eq (hidT_size _ _), trivial, fun b hb => absurd (show b ∈ ([] : List Addr) from hb) (by simp), hok, .of_eq hg⟩
  refine codeAny_mono ((F _ hKb (nsK hns) TB).run callerA [] s₁ H ⟨[.ref a], []⟩ [.ref a] [.ref a] _ _ hr rfl e0 (hbind s₁ (.ref a)) (.cons rfl .nil) (hsp H ob Hn (fun p hp => HT _ (memT p hp)) Ha)) fun r s' h => ?_
  match r, h with
  | .error e, h =>
    obtain ⟨_, _, _, _, _, _, _, _, _, _, _, _, z⟩ := h
    exact z.elim
  | .ok .next, h => exact False.elim h
  | .ok .brk, h => exact False.elim h
  | .ok .cont, h => exact False.elim h
  | .ok (.ret u), h =>
    obtain ⟨v, H', os, bare, un, hok', r', q⟩ := h
    have q' : v = .bl true := q
    subst q'
    obtain rfl : u = Value.bool true := r'
    have key : ∀ b o, b ∉ cs.map (·.2) → s₁.heap.get? b = some o → s'.heap.get? b = some o := fun b o nb e => by
      by_cases h : b = a
      · subst h
        have z := un.frzs b _ _ Ha
        obtain ⟨e1, _⟩ := hok b _ Ha
        obtain ⟨e2, _⟩ := hok' b _ z
        rw [e] at e1
        cases e1
        exact e2
      · exact un.keep b o e (Hn b h nb) (by intro z; exact absurd (show b ∈ ([] : List Addr) from z) (by simp)) (by simp)
    have grown : ∀ p ∈ cs, ∃ more : Array Value, s'.heap.get? p.2 = some { cls := .none, data := .fields more } := fun p hp => by
      obtain ⟨more, z⟩ := un.tbls p.2 #[] (HT _ (memT p hp))
      exact ⟨_, hok' p.2 _ z⟩
    refine ⟨rfl, ⟨fun b o e => ?_, fun b o e => ?_⟩, os, bare⟩
    · by_cases hb : b ∈ cs.map (·.2)
      · obtain ⟨p, hp, ep⟩ := List.mem_map.mp hb
        obtain ⟨more, hm⟩ := grown p hp
        rw [← ep] at e ⊢
        rw [hT p hp] at e
        cases e
        exact .inr (.inl ⟨((C p hp).tab (hT p hp)).isCodeTable, rfl, #[], more, rfl, by rw [Array.empty_append]; exact hm⟩)
      · exact .inl (key b o hb e)
    · by_cases hb : b ∈ cs.map (·.2)
      · obtain ⟨p, hp, ep⟩ := List.mem_map.mp hb
        obtain ⟨more, hm⟩ := grown p hp
        rw [← ep]
        exact ⟨_, hm⟩
      · exact ⟨o, key b o hb e⟩
/-- the end of a law -/
theorem walk_G {l : PySem.W.OpenLaw} {n k : Nat} {q : Program} {loose : List Str} {XP : (Str → Option Value) → Heap → Prop} {YP : World → Heap → Prop} {d : DefRec} {x : Str} (hn : l.most = some n) (hn2 : n ≤ sizeLine) (hdf : d.params.defaults = []) (hr : Room k callerA)
    (F : ∀ (w : World) (mg : Str → Option Value) (fa : Addr) (h : Heap), YP w h → h.Ns mainGlobals mg → mg d.name = some (.ref fa) →
      ∃ (K : PySem.W.Frag) (cs : List (Addr × Addr)) (fd : FuncData) (sp : Sp), K.In h ∧ (∀ a o, K.lookup a = some o → noT o = true) ∧ (∀ p ∈ cs, h.get? p.2 = some { cls := .none, data := .fields #[] }) ∧ (∀ p ∈ cs, PySem.W.CodeHd h p.1 p.2) ∧ (∀ (s : Shared) (u : Value), BindsTo s fd ⟨[u], []⟩ [(x, u)]) ∧
        (∀ (H : Hp) (a : Addr) (ns : List Int) (o : Obj), ns.length ≤ n → (∀ b, b ≠ a → b ∉ cs.map (·.2) → H b = none) → (∀ p ∈ cs, H p.2 = some (.tbl #[])) → H a = some (.frz o (.lst (ns.map V.int))) → sp [.ref a] H (fun v _ => v = .bl true) fun _ _ _ => False) ∧
        ∀ base : Heap, K.In base → base.Ns mainGlobals mg → (∀ p ∈ cs, LamX.TabB base mg p.1 p.2) → FnG l.prog w K mg base k fa fd [x] sp) :
    PySem.W.WalkO q loose XP YP l.row.toRowW d [] (fun f vs => PySem.call f vs) := by
  refine Att.attach_call hn hdf fun w s₀ s₁ mg mb fa o pm cd doc a vs ns G Y ho hd hcd hmg hobj hints hlen hg => ?_
  obtain ⟨K, cs, fd, sp, KX, hnl, hT, C, hb, hsp, hF⟩ := F w mg fa _ Y G.T.g hmg
  exact law_callG KX hnl G.T.g G.T.b G.T.builtins G.T.nolimit hg hT C G.T.bmain hobj hints (Nat.le_trans hlen hn2) hr hF hb fun H ob h1 h2 h3 => hsp H a ns ob hlen h1 h2 h3
end G

set_option maxHeartbeats 400000
/-! G.Facts: what the head finds, as the rules ask it. -/
namespace G
open PySem PySem.Spec PyProof.Rows L2
def oxB (K : PySem.W.Frag) (C : Addr) : Bool := match K.lookup C with
  | some ⟨.type "type", _, .cls cd, sl⟩ => (match cd.mro, sl.toList with
    | .ref C' :: bm, [_, _, _, _, some (.builtin n), _] => C' == C && (n == "ValueError.__new__" && (!cd.hasDel && (cd.hasDict && PySem.HandSPX.refsVE bm)))
    | _, _ => false)
  | _ => false
theorem oxB_ok {K : PySem.W.Frag} {C : Addr} (q : oxB K C = true) : ∃ nm qn N bs bm sn sub ab col dd k0 k1 k2 k3 k5, K.lookup C = some (excClassObj nm qn C N bs bm true sn sub ab col dd k0 k1 k2 k3 k5 "ValueError.__new__") ∧ PySem.HandSPX.refsVE bm = true := by
  unfold oxB at q
  split at q
  · rename_i dd cd sl ho
    split at q
    · rename_i C' bm k0 k1 k2 k3 n k5 hm hs
      simp only [Bool.and_eq_true, beq_iff_eq, Bool.not_eq_true'] at q
      obtain ⟨rfl, rfl, h1, h2, h3⟩ := q
      obtain ⟨nm, bs, mro, ns, qn, hd, sn, sub, ab, col, del⟩ := cd
      dsimp only at hm h1 h2
      subst hm h1 h2
      obtain ⟨l⟩ := sl
      simp only at hs
      subst hs
      exact ⟨nm, qn, ns, bs, bm, sn, sub, ab, col, dd, k0, k1, k2, k3, k5, ho, h3⟩
    · cases q
  · cases q
abbrev eqF (a b : Option (Option Value)) : Bool := decide (a = b)
def clB (K : PySem.W.Frag) (C : Addr) : Bool := oxB K C && (eqF (PySem.W.findIn K (.ref C) "__setattr__") (some (some (.builtin "object.__setattr__"))) && (decide (PySem.W.subIn K (.ref C) (.type "BaseException") = some true) && (decide (PySem.W.typeIn K (.ref C) = some (.type "type")) && (PySem.W.keepIn K (.ref C) &&
  (eqF (PySem.W.findIn K (.ref C) "__getattribute__") (some (some (.builtin "BaseException.__getattribute__"))) && (eqF (PySem.W.findIn K (.ref C) "__getattr__") (some none) && (PySem.W.hasDictIn K C && (eqF (PySem.W.findIn K (.ref C) "__class__") (some (some (.builtin "object.__class__"))) &&
  (eqF (PySem.W.specialIn K (.builtin "object.__class__") "__get__") (some (some (.builtin "getset_descriptor.__get__"))) && (decide (PySem.W.takesIn K (.builtin "object.__class__") = some true) && decide (PySem.W.mroIn K C (.type "object") = some true)))))))))))
theorem clB_ok {K : PySem.W.Frag} {C : Addr} (q : clB K C = true) : OexC K C ∧ ExcC K C := by
  unfold clB at q
  simp only [Bool.and_eq_true, decide_eq_true_eq] at q
  obtain ⟨h1, h2, h3, h4, h5, h6, h7, h8, h9, h10, h11, h12⟩ := q
  exact ⟨⟨oxB_ok h1, h2, h3, h4, h5⟩, ⟨h6, h7, h3, h8, h9, h10, h11, h12⟩⟩
/-- the classes of errors: name, fields, the classes above (itself first) -/
abbrev ClsT := List (Str × List Str × List Nat)
def ClsT.nm (t : ClsT) (c : Nat) : Str := ((t[c]?).map (·.1)).getD ""
def ClsT.cf (t : ClsT) (c : Nat) : List Str := ((t[c]?).map (·.2.1)).getD []
def ClsT.sub (t : ClsT) (c : Nat) : List Nat := ((t[c]?).map (·.2.2)).getD []
def ClsT.ca (t : ClsT) (K : PySem.W.Frag) (c : Nat) : Addr := He.ga K (t.nm c)
def xtB (t : ClsT) (K : PySem.W.Frag) : Bool := (List.range t.length).all fun c => clB K (t.ca K c) && ((t.cf c).all (fun f => eqF (PySem.W.findIn K (.ref (t.ca K c)) f) (some none)) && (decide (PySem.W.kitOne K (.ref (t.ca K c)) (.type "ValueError") = some true) &&
  (List.range t.length).all fun d => decide (PySem.W.kitOne K (.ref (t.ca K c)) (.ref (t.ca K d)) = some ((t.sub c).contains d)) && decide (PySem.W.exmOne K (.ref (t.ca K c)) (.ref (t.ca K d)) = some ((t.sub c).contains d))))
theorem sub_lt {t : ClsT} {c : Nat} (h : (t.sub c).isEmpty = false) : c ∈ List.range t.length := by
  rw [List.mem_range]
  unfold ClsT.sub at h
  cases e : t[c]? with
  | none => rw [e] at h; cases h
  | some p => exact (List.getElem?_eq_some_iff.mp e).1
theorem xtB_ok {t : ClsT} {K : PySem.W.Frag} (h : xtB t K = true) : XT K (t.ca K) t.cf t.sub := by
  have h0 : ∀ c, (t.sub c).isEmpty = false → _ := fun c hc => List.all_eq_true.mp h c (sub_lt hc)
  simp only [Bool.and_eq_true, decide_eq_true_eq, List.all_eq_true] at h0
  exact ⟨fun c hc => (clB_ok (h0 c hc).1).1, fun c hc => (clB_ok (h0 c hc).1).2, fun c f hc hf => (h0 c hc).2.1 f hf, fun c d hc hd => ((h0 c hc).2.2.2 d (sub_lt hd)).1, fun c hc => (h0 c hc).2.2.1, fun c d hc hd => ((h0 c hc).2.2.2 d (sub_lt hd)).2⟩
/-- a class's own __init__ -/
def inB (K : PySem.W.Frag) (x : Str) : Bool := eqF (PySem.W.findIn K (.ref (He.ga K x)) "__init__") (some (some (.ref (He.ma K (He.ga K x) "__init__")))) && decide (PySem.W.typeIn K (.ref (He.ma K (He.ga K x) "__init__")) = some (.type "function"))
theorem inB_ok {K : PySem.W.Frag} {x : Str} (h : inB K x = true) : PySem.W.findIn K (.ref (He.ga K x)) "__init__" = some (some (.ref (He.ma K (He.ga K x) "__init__"))) ∧ PySem.W.typeIn K (.ref (He.ma K (He.ga K x) "__init__")) = some (.type "function") := by
  unfold inB at h
  simp only [Bool.and_eq_true, decide_eq_true_eq] at h
  exact h
/-- the base's -/
def baB (K : PySem.W.Frag) (C : Addr) : Bool := eqF (PySem.W.specialIn K (.ref C) "__getattribute__") (some (some (.builtin "type.__getattribute__"))) && (PySem.W.readsIn K C (.type "type") && (match PySem.W.findCls K (.ref C) (.type "type") "__init__" with
  | some (.val (.builtin n)) => n == "ValueError.__init__"
  | _ => false))
theorem baB_ok {K : PySem.W.Frag} {C : Addr} (h : baB K C = true) : BaseI K C := by
  unfold baB at h
  simp only [Bool.and_eq_true, decide_eq_true_eq] at h
  obtain ⟨h1, h2, h3⟩ := h
  refine ⟨h1, h2, ?_⟩
  split at h3
  · rename_i n e
    rw [e, beq_iff_eq.mp h3]
  · cases h3
/-- the world of a law -/
structure OkR (w : World) (tb : List (Addr × Str)) (ca : Nat → Addr) (cf : Nat → List Str) (tl : Nat) (R : Rn) : Prop where
  w : R.w = w
  tb : R.tb = tb
  ca : R.ca = ca
  cf : R.cf = cf
  tl : R.tl = tl
theorem OkR.sim {w : World} {tb : List (Addr × Str)} {ca : Nat → Addr} {cf : Nat → List Str} {tl : Nat} {R S : Rn} (s : Sim R S) (h : OkR w tb ca cf tl R) : OkR w tb ca cf tl S :=
  ⟨s.w.trans h.w, s.tb.trans h.tb, s.ca.trans h.ca, s.cf.trans h.cf, s.tl.trans h.tl⟩
/-- the code objects of the defs with lambdas -/
theorem codT_of {K : PySem.W.Frag} {h base : Heap} {mg : Str → Option Value} {tx : List Str} {x : Str} {st : Stmt} {f : Addr} {fd : FuncData} (X : K.In h) (G : h.Ns mainGlobals mg) (hb : tbB K tx = true) (TB : ∀ p ∈ csOf K tx, LamX.TabB base mg p.1 p.2) (hx : x ∈ tx) (Fu : Fun K x x st f fd) (hm : mg x = some (.ref f)) :
    CodT base mg (tbOf K tx) x fd := by
  unfold tbB at hb
  simp only [Bool.and_eq_true, decide_eq_true_eq] at hb
  obtain ⟨h1, nd⟩ := hb
  have h1 := List.all_eq_true.mp h1 x hx
  split at h1
  · rename_i c P ht
    have htb := TB (c, P) (List.mem_map.mpr ⟨x, hx, by rw [ht]; rfl⟩)
    refine ⟨c, P, ?_, htb, List.mem_map.mpr ⟨x, hx, by rw [ht]; rfl⟩, fun p hp e => ?_⟩
    · unfold PySem.W.tabIn at ht
      split at ht
      · rename_i f' hf
        have e1 := PySem.W.mg_of X G hf
        rw [hm] at e1
        cases e1
        obtain ⟨oc, od, kV, doc, pm, an, cdv, ctv, osl, e2, lk, hcd⟩ := Fu.ex
        rw [lk] at ht
        dsimp only at ht
        split at ht
        · rename_i c' hc'
          split at ht
          · split at ht
            · cases ht
              exact hc'
            · cases ht
          · cases ht
        · cases ht
      · cases ht
    · obtain ⟨y, hy, rfl⟩ := List.mem_map.mp hp
      have e : ((PySem.W.tabIn K y).getD (0, 0)).2 = P := e
      have inj : ∀ {l : List Str}, ((l.map fun x => (PySem.W.tabIn K x).getD (0, 0)).map (·.2)).Nodup → ∀ a ∈ l, ∀ b ∈ l, ((PySem.W.tabIn K a).getD (0, 0)).2 = ((PySem.W.tabIn K b).getD (0, 0)).2 → a = b := by
        intro l
        induction l with
        | nil => intro _ a ha; cases ha
        | cons z l ih =>
          intro hn a ha b hb e
          simp only [List.map_cons, List.nodup_cons] at hn
          rcases List.mem_cons.mp ha with rfl | ha2
          · rcases List.mem_cons.mp hb with rfl | hb2
            · rfl
            · exact (hn.1 (List.mem_map.mpr ⟨_, List.mem_map.mpr ⟨b, hb2, rfl⟩, e.symm⟩)).elim
          · rcases List.mem_cons.mp hb with rfl | hb2
            · exact (hn.1 (List.mem_map.mpr ⟨_, List.mem_map.mpr ⟨a, ha2, rfl⟩, e⟩)).elim
            · exact ih hn.2 a ha2 b hb2 e
      have : y = x := inj nd y hy x hx (by rw [e, ht]; rfl)
      rw [this]
  · cases h1
theorem OkR.xt {K : PySem.W.Frag} {w : World} {tb : List (Addr × Str)} {ca : Nat → Addr} {cf : Nat → List Str} {tl : Nat} {R : Rn} {sub : Nat → List Nat} (h : OkR w tb ca cf tl R) (T : XT K ca cf sub) : XT K R.ca R.cf sub := by
  rw [h.ca, h.cf]
  exact T
/-- a def of the text -/
structure FE (K : PySem.W.Frag) (mg : Str → Option Value) (x : Str) (st : Stmt) (ps : List Str) (f : Addr) (fd : FuncData) : Prop where
  fu : Fun K x x st f fd
  m : mg x = some (.ref f)
  b : L2.Binds K fd ps []
/-- an error's __init__ -/
structure FI (K : PySem.W.Frag) (mg : Str → Option Value) (x : Str) (st : Stmt) (ps : List Str) (C fI : Addr) (fd : FuncData) : Prop where
  fu : ∃ q, Fun K "__init__" q st fI fd
  m : mg x = some (.ref C)
  b : L2.Binds K fd ps []
  iC : PySem.W.findIn K (.ref C) "__init__" = some (some (.ref fI))
  tI : PySem.W.typeIn K (.ref fI) = some (.type "function")
def clsM (s : Stmt) (j : Nat) : Stmt := match s with
  | .ClassDef _ _ _ b _ _ _ _ _ _ _ => b.getD j (.Pass ⟨0, 0, 0, 0⟩)
  | _ => .Pass ⟨0, 0, 0, 0⟩
end G
namespace G
open PySem PySem.Spec PyProof.Rows L2
theorem tokB {tbl : List (Nat × Nat)} {t : ClsT} {f : Str} (h : (tbl.all fun p => !(t.sub p.1).isEmpty && (decide (t.cf p.1 = [f]) && decide (p.2 = 0))) = true) : ∀ c i, tbl.lookup c = some i → (t.sub c).isEmpty = false ∧ t.cf c = [f] ∧ i = 0 := fun c i e => by
  have m : (c, i) ∈ tbl := by
    clear h
    induction tbl with
    | nil => cases e
    | cons p r ih =>
      obtain ⟨b, j⟩ := p
      rw [List.lookup_cons] at e
      split at e
      · rename_i q
        cases e
        rw [beq_iff_eq.mp q]
        exact List.mem_cons_self
      · exact List.mem_cons_of_mem _ (ih e)
  have := List.all_eq_true.mp h _ m
  simp only [Bool.and_eq_true, Bool.not_eq_true', decide_eq_true_eq] at this
  exact this
section
variable {g : Cg} {X : Cx}
/-- x = e, in a suite too -/
theorem js_asgN {x : Str} {i : Nat} {a : Expr} {y : E} {p pos : Pos} (nd : X.N.Nodup) (ha : JE g X a y) (hi : X.N[i]? = some x := by rfl) (hx : Loc X.env.scope x := by first | exact Or.inl rfl | exact Or.inr rfl) (hs : swapsWith a (some (.Name x p)) pos.line X.env = pure false := by rfl)
    (hf : X.fn x = true ∨ X.env.scope.names.lookup x = some .local := by first | exact .inl rfl | exact .inr rfl) : JS g X (.Assign [.Name x p] a pos) (.asg i y) := ⟨(ps_set nd hi hx ha.val hs hf).imp fun D σ H z => by
  obtain ⟨e, Ls, F, G, h⟩ := z
  refine tV_then G h (fun _ _ z => err_S z) no_S fun r e' v H' Ls' Lt hr s g rp => ?_
  obtain ⟨hl, h2⟩ := setE_all (P := fun r => (mk (fun _ => pu .nx) r).All (PostS _ _ _ _ _ D)) (all_mb.mp hr) no_S
  obtain ⟨g', s'⟩ := g.put rp hl
  exact h2 _ H' _ (s.trans s' fun a z => z) g'⟩
end
end G
namespace G
open PySem PySem.Spec PyProof.Rows L2
theorem Cok.tr {X : Cx} {pn : List (Addr × Obj)} {xe : Value → Shared → Prop} (C : Cok X) (po : PassesOwn (model X.prog X.w) X.A X.env xe) : Cok (X.tr pn xe) := ⟨C.calm, C.un, C.gd, C.nd, po⟩
end G
namespace G
open PySem PySem.Spec PyProof.Rows L2
theorem codT_hd {K : PySem.W.Frag} {h : Heap} {tx : List Str} (X : K.In h) (hb : tbB K tx = true) : ∀ p ∈ csOf K tx, PySem.W.CodeHd h p.1 p.2 := fun p hp => by
  unfold tbB at hb
  simp only [Bool.and_eq_true, decide_eq_true_eq] at hb
  obtain ⟨x, hx, rfl⟩ := List.mem_map.mp hp
  have h1 := List.all_eq_true.mp hb.1 x hx
  split at h1
  · rename_i c P ht
    rw [ht]
    exact PySem.W.codeHd_of_K X h1
  · cases h1
theorem tb_cs {K : PySem.W.Frag} {tx : List Str} : (csOf K tx).map (·.2) = (tbOf K tx).map (·.1) := by
  unfold csOf tbOf
  rw [List.map_map, List.map_map]
  rfl
theorem tb_at {K : PySem.W.Frag} {tx : List Str} {H : Hp} (h : ∀ p ∈ csOf K tx, H p.2 = some (.tbl #[])) : ∀ p ∈ tbOf K tx, H p.1 = some (.tbl #[]) := fun p hp => by
  have z : p.1 ∈ (csOf K tx).map (·.2) := by rw [tb_cs]; exact List.mem_map.mpr ⟨p, hp, rfl⟩
  obtain ⟨q, hq, e⟩ := List.mem_map.mp z
  rw [← e]
  exact h q hq
end G

set_option maxHeartbeats 400000
/-! G.Law: a law's def: the source of draws is made, then the rest. -/
namespace G
open PySem PySem.Spec PyProof.Rows L2
section
variable {g : Cg} {X : Cx} {R : Rn} {W : WD} {σ : St} {e : Env} {H : Hp} {Ls : Nat → List Addr} {F : List Addr} {sub : Nat → List Nat}
theorem pe_callG {k : Nat} {f : Addr} {fd : FuncData} {ps : List Str} {sp : Sp} {x : Str} {p pos : Pos} {a : Expr} {as : List Expr} {ta : TA} {W : WX} (C : Cok X) (FG : FnG X.prog X.w X.K X.mg X.base k f fd ps sp) (tk : Takes X W) (hr : Room k X.A) (hg : Gl X x) (hm : X.mg x = some (.ref f)) (hk : PySem.W.keepIn X.K (.ref f) = true) (hb : L2.Binds X.K fd ps [])
    (ha : PA X (a :: as) ta) (hdb : (x == ("__debug__" : Str)) = false := by decide) (z : Pl1 X pos a as := by exact {}) : PE X (.Call (.Name x p) (a :: as) [] pos) (tCallS sp (WE W) ta) :=
  ⟨fun pins s σ H Q I h => wpAny_Call_Name_kw (ld_glob I hg hm (PySem.W.callWith_K (h₀ := X.base) I.ok.mod.kin hk (thn (ha.run pos pins s σ H _ I h) fun us s1 ⟨vs, H1, I1, r, q⟩ => ⟨I1.kIn, run_g C FG hr hb (passAt tk σ) I1 r q⟩) z.he z.hpl) hdb)⟩
/-- what a law's begin gives -/
structure BeginOk (tl : Nat) (Fb : Fn) (ns : List Int) : Prop where
  run : (Fb [.scr ns]).All fun r => ∃ (cs : List Int) (i m : Int) (ts : List Int), r = .ok true (.lst (.lst (cs.map .int) :: .int i :: .int m :: ts.map .int)) ∧ 0 ≤ i ∧ 0 ≤ m ∧ m < 2147483648 ∧ cs ≠ [] ∧ cs.length ≤ 63 ∧ ts.length = tl
/-- a list of ints in the heap -/
theorem Reps.ints_eq {B : Addr → Prop} : ∀ {cs : List Int} {xs : List V}, Reps R H B 0 (cs.map .int) xs [] → xs = cs.map V.int
  | [], xs, h => by simp only [List.map_nil, Reps] at h; exact h.1
  | i :: cs, xs, h => by
    obtain ⟨v, vs, rfl, r1, r2⟩ := Reps.uncons h
    rw [r1.int, Reps.ints_eq r2]
    rfl
/-- the law says True -/
structure SaysT (m : M Fl) (N : Nat) (ns : List Int) : Prop where
  run : (m (some (0, .scr ns) :: some (0, .rnd) :: List.replicate N none)).All fun r => ∃ n e, r = .ok (.rt n (.bl true)) e
/-- draw = begin(script); the rest -/
def tLaw (tb : List (Addr × Str)) (tl : Nat) (ca : Nat → Addr) (cf : Nat → List Str) (Fb : Fn) (m : M Fl) : TS := fun D σ H => ∃ (a : Addr) (ns : List Int) (o : Obj) (N : Nat), σ = some (.ref a) :: none :: List.replicate N none ∧ ns.length ≤ 63 ∧ (∀ b, b ≠ a → b ∉ tb.map (·.1) → H b = none) ∧ (∀ p ∈ tb, H p.1 = some (.tbl #[])) ∧ H a = some (.frz o (.lst (ns.map V.int))) ∧ BeginOk tl Fb ns ∧ SaysT m N ns ∧ ∀ H', D.rt (.bl true) H'
theorem law_run (lo : Nat → Addr → Addr → Option HO) (lq : Str) {tb : List (Addr × Str)} {tl : Nat} {ca : Nat → Addr} {cf : Nat → List Str} {w : World} {Fb : Fn} {m : M Fl} {D : Ends} {W : WD} {Wx : WX} (h : tLaw tb tl ca cf Fb m D σ H) :
    tSeq (tAsg (tCallS (fsp (OkR w tb ca cf tl) 1 Fb) (WE Wx) (tCons (tVar 0) tNil)) (gName 1)) (fun D σ H => ∃ R, OkR w tb ca cf tl R ∧ (R.lo = lo ∧ R.lq = lq ∧ R.wv = []) ∧ tS R W m D σ H) D σ H := by
  obtain ⟨a, ns, o, N, rfl, hl, hn, ht, ha, hB, hM, hD⟩ := h
  have naT : a ∉ tb.map (·.1) := fun z => by
    obtain ⟨p, hp, e⟩ := List.mem_map.mp z
    have q := ht p hp
    rw [e, ha] at q
    cases q
  obtain ⟨R0, hR0⟩ : ∃ R0 : Rn, R0 = { w := w, r := none, ca := ca, cf := cf, tl := tl, tb := tb } := ⟨_, rfl⟩
  have r0 : R0.r = none := by rw [hR0]
  have t0 : R0.tb = tb := by rw [hR0]
  have bn0 : ∀ {F : List Addr} {c : Addr}, Bn R0 nL F c → c ∈ F ∨ c ∈ tb.map (·.1) := fun {F c} z => by
    rcases z with z | ⟨i, z⟩ | ⟨r, q, _⟩ | z
    · exact .inl z
    · cases z
    · rw [r0] at q; cases q
    · rw [t0] at z; exact .inr z
  have hT : TabOk H R0 := by
    refine ⟨fun p hp => LamX.TabS.nil (ht p (by rw [← t0]; exact hp)), fun b ps e => ?_⟩
    rw [t0]
    refine Classical.byContradiction fun z => ?_
    by_cases hb : b = a
    · rw [hb, ha] at e; cases e
    · rw [hn b hb z] at e; cases e
  refine ⟨_, rfl, R0, by rw [hR0]; exact ⟨rfl, rfl, rfl, rfl, rfl⟩, [.scr ns], [], ?_, ?_, rfl, ?_⟩
  · refine ⟨rfl, (fun i n d h => by simp at h), fun i => List.nodup_nil, (fun _ _ _ a ha => nomatch ha), (fun i a ha => nomatch ha), List.nodup_nil, fun b hb => ?_, ⟨?_, hT⟩, fun b hb => ⟨fun z => (nomatch z), fun i z => (nomatch z)⟩⟩
    · rcases bn0 hb with z | z
      · cases z
      · obtain ⟨p, hp, rfl⟩ := List.mem_map.mp z
        exact ⟨_, ht p hp, fun _ => tbl_no⟩
    · unfold DrwOk
      rw [r0]
      trivial
  · simp only [Reps, Rep]
    exact ⟨_, [], [], [], rfl, rfl, ⟨rfl, a, rfl, .inr ⟨o, ha⟩, fun z => (bn0 z).elim (fun y => nomatch y) naT⟩, rfl, rfl⟩
  · refine hB.run.mono fun r ⟨cs, i, mm, ts, hr, b1, b2, b3, b4, b5, b6⟩ => ?_
    subst hr
    intro v H1 Lt s g rp
    simp only [top, if_true, Rep] at rp
    obtain ⟨p, xs, L', rfl, e1, rfl, rs⟩ := rp
    have z := Reps.zero _ _ _ rs
    subst z
    obtain ⟨v1, vs1, rfl, r1, rs⟩ := Reps.uncons rs
    obtain ⟨v2, vs2, rfl, r2, rs⟩ := Reps.uncons rs
    obtain ⟨v3, vs3, rfl, r3, rs⟩ := Reps.uncons rs
    have e4 := Reps.ints_eq rs
    subst e4
    simp only [Rep] at r1
    obtain ⟨b, ys, rfl, e2, nb, _, r1⟩ := r1
    have e5 := Reps.ints_eq r1
    subst e5
    have i2 := r2.int
    have i3 := r3.int
    subst i2 i3
    have pB : Bn R0 nL ([p] ++ []) p := .inl (by simp)
    have ha1 : H1 a = some (.frz o (.lst (ns.map V.int))) := s.ext a _ ha fun z => (bn0 z).elim (fun y => nomatch y) naT
    have na : a ≠ p := fun z => by rw [← z, ha1] at e1; cases e1
    have nab : a ≠ b := fun z => by rw [← z, ha1] at e2; cases e2
    have npb : p ≠ b := fun z => nb (by rw [← z]; exact pB)
    have nT : ∀ c, (∃ xs, H1 c = some (.lst xs)) → c ∉ tb.map (·.1) := fun c ⟨xs, e⟩ z => by
      have tt := g.rnd.t.t
      rw [t0] at tt
      obtain ⟨q, hq, rfl⟩ := List.mem_map.mp z
      obtain ⟨ps, e', _⟩ := tt q hq
      rw [e] at e'
      cases e'
    have pT := nT p ⟨_, e1⟩
    have bT := nT b ⟨_, e2⟩
    obtain ⟨R1, hR1⟩ : ∃ R1 : Rn, R1 = { w := w, r := some (p, b), ca := ca, cf := cf, tl := tl, tb := tb, lo := lo, lq := lq } := ⟨_, rfl⟩
    have r1' : R1.r = some (p, b) := by rw [hR1]
    have t1 : R1.tb = tb := by rw [hR1]
    have l1 : R1.tl = tl := by rw [hR1]
    have rb : ∀ c, Bn R1 nL [] c → c = p ∨ c = b ∨ c ∈ tb.map (·.1) := fun c => by
      rintro (z | ⟨i, z⟩ | ⟨r, q, z⟩ | z)
      · cases z
      · cases z
      · rw [r1'] at q
        cases q
        exact z.elim .inl fun y => .inr (.inl y)
      · rw [t1] at z
        exact .inr (.inr z)
    refine ⟨R1, by rw [hR1]; exact ⟨rfl, rfl, rfl, rfl, rfl⟩, by rw [hR1]; exact ⟨rfl, rfl, rfl⟩, some (0, .scr ns) :: some (0, .rnd) :: List.replicate N none, nL, [], ?_, hM.run.mono fun r hr => ?_⟩
    · refine ⟨by simp, fun i n d hi => ?_, fun i => List.nodup_nil, (fun _ _ _ a ha => nomatch ha), (fun i a ha => nomatch ha), List.nodup_nil, fun c hc => ?_, ⟨?_, ?_⟩, fun c hc => ⟨fun z => (nomatch z), fun i z => (nomatch z)⟩⟩
      · match i, hi with
        | 0, hi =>
          cases hi
          refine ⟨.ref a, rfl, ?_⟩
          simp only [Rep]
          exact ⟨rfl, a, rfl, .inr ⟨o, ha1⟩, fun z => (rb a z).elim na fun y => y.elim nab naT⟩
        | 1, hi =>
          cases hi
          refine ⟨.ref p, rfl, ?_⟩
          simp only [Rep]
          exact ⟨rfl, (p, b), r1', rfl⟩
        | i + 2, hi =>
          rw [List.getElem?_cons_succ, List.getElem?_cons_succ, List.getElem?_replicate] at hi
          split at hi <;> cases hi
      · rcases rb c hc with rfl | rfl | z
        · exact ⟨_, e1, fun _ => lst_no⟩
        · exact ⟨_, e2, fun _ => lst_no⟩
        · obtain ⟨q, hq, rfl⟩ := List.mem_map.mp z
          have tt := g.rnd.t.t
          rw [t0] at tt
          obtain ⟨ps, e', _⟩ := tt q hq
          exact ⟨_, e', fun _ => tbl_no⟩
      · unfold DrwOk
        rw [r1']
        exact ⟨i, mm, cs, ts, npb, e1, e2, b1, b2, b3, b4, b5, b6.trans l1.symm⟩
      · have tt := g.rnd.t
        refine ⟨?_, fun c ps e => ?_⟩
        · rw [t1, ← t0]; exact tt.t
        · rw [t1, ← t0]; exact tt.o c ps e
    · obtain ⟨n, e', rfl⟩ := hr
      intro v σ' H' Ls' Lt _ _ rp
      rw [rp.bl]
      exact hD H'
end
end G

set_option maxHeartbeats 400000
/-! G.Plain: what a piece of the language comes to, whatever is drawn. -/
namespace G
open PySem
section
variable {α β : Type} {e : Env} {Φ : α → Env → Prop} {Ψ : D → Env → Prop} {sub : Nat → List Nat} {F : Nat → Fn}
def pst (Φ : α → Env → Prop) (Ψ : D → Env → Prop) : Rs α → Prop
  | .ok a e => Φ a e
  | .err x e => Ψ x e
  | .no => False
/-- m at e comes to Φ, or to an error of Ψ -/
structure wp (m : M α) (e : Env) (Φ : α → Env → Prop) (Ψ : D → Env → Prop) : Prop where
  run : (m e).All (pst Φ Ψ)
theorem wpi {m : M α} : wp m e Φ Ψ ↔ (m e).All (pst Φ Ψ) := ⟨fun h => h.run, fun h => ⟨h⟩⟩
theorem wp_eq {m m' : M α} (h : m = m') : wp m e Φ Ψ ↔ wp m' e Φ Ψ := by rw [h]
theorem wp_mono {m : M α} {Φ' : α → Env → Prop} {Ψ' : D → Env → Prop} (h : wp m e Φ Ψ) (f : ∀ a e, Φ a e → Φ' a e) (g : ∀ x e, Ψ x e → Ψ' x e) : wp m e Φ' Ψ' :=
  ⟨Tr.All.mono h.run fun r z => match r, z with
    | .ok a e, z => f a e z
    | .err x e, z => g x e z⟩
@[simp ↓] theorem wp_mb {m : M α} {f : α → M β} {Φ : β → Env → Prop} : wp (mb m f) e Φ Ψ ↔ wp m e (fun a e' => wp (f a) e' Φ Ψ) Ψ := by
  rw [wpi, wpi]
  unfold mb
  rw [Tr.all_bind]
  constructor
  · intro h
    refine h.mono fun r z => ?_
    match r, z with
    | .ok a e, z => exact ⟨z⟩
    | .err x e, z => exact z
  · intro h
    refine h.mono fun r z => ?_
    match r, z with
    | .ok a e, z => exact wp.run z
    | .err x e, z => exact z
@[simp ↓] theorem wp_pu {a : α} : wp (pu a) e Φ Ψ ↔ Φ a e := wpi
@[simp ↓] theorem wp_no : wp (no : M α) e Φ Ψ ↔ False := wpi
@[simp ↓] theorem wp_rz {x : D} : wp (rz x : M α) e Φ Ψ ↔ Ψ x e := wpi
theorem wp_some {a : α} : wp (op (some a)) e Φ Ψ ↔ Φ a e := wpi
theorem wp_none : wp (op (none : Option α)) e Φ Ψ ↔ False := wpi
@[simp ↓] theorem wp_op {o : Option α} : wp (op o) e Φ Ψ ↔ ∃ a, o = some a ∧ Φ a e := by
  cases o with
  | none => simp [wp_none]
  | some a => simp [wp_some]
@[simp ↓] theorem wp_tst {b : Bool} {m : M α} : wp (tst b m) e Φ Ψ ↔ b = true ∧ wp m e Φ Ψ := by
  unfold tst
  split
  · rename_i h; simp [h]
  · rename_i h; simp [h, wp_no]
theorem wp_getE {i : Nat} {Φ : Nat × D → Env → Prop} {r : Nat × D} (h : e[i]? = some (some r)) : wp (getE i) e Φ Ψ ↔ Φ r e := by
  rw [wpi]
  unfold getE
  rw [h]
  exact Iff.rfl
theorem wp_setE {i : Nat} {r : Nat × D} {Φ : Unit → Env → Prop} (h : i < e.length) : wp (setE i r) e Φ Ψ ↔ Φ () (e.set i (some r)) := by
  rw [wpi]
  unfold setE
  rw [if_pos h]
  exact Iff.rfl
theorem wp_frzE {i : Nat} {r : Nat × D} {Φ : Nat × D → Env → Prop} (h : e[i]? = some (some r)) : wp (frzE i) e Φ Ψ ↔ Φ (0, r.2) (e.set i (some (0, r.2))) := by
  unfold frzE
  rw [wp_mb, wp_getE h, wp_mb, wp_setE (List.getElem?_eq_some_iff.mp h).1, wp_pu]
@[simp ↓] theorem wp_ltr {t : Tr α} : wp (ltr t) e Φ Ψ ↔ t.All fun a => Φ a e := by
  rw [wpi]
  unfold ltr
  rw [Tr.all_bind]
  exact Iff.rfl
/-- a call's end -/
def pstF (Φ : Bool → D → Prop) (Ψ : D → Prop) : FO → Prop
  | .ok fr d => Φ fr d
  | .err x => Ψ x
  | .no => False
structure wpF (t : Tr FO) (Φ : Bool → D → Prop) (Ψ : D → Prop) : Prop where
  run : t.All (pstF Φ Ψ)
@[simp ↓] theorem wp_call {j : Nat} {ps : List Pl} {ord : List Nat} {Φ : Nat × D → Env → Prop} : wp (callE F j ps ord) e Φ Ψ ↔ wp (vlPs ps) e (fun l e' => (l.length == ord.length) = true ∧ wpF (F j (permD l ord)) (fun fr d => Φ (if fr = true then top d else 0, d) e') fun x => Ψ x e') Ψ := by
  unfold callE
  rw [wp_mb]
  constructor
  · intro h
    refine wp_mono h (fun l e' z => ?_) fun _ _ z => z
    obtain ⟨h1, z⟩ := wp_tst.mp z
    rw [wp_mb, wp_ltr] at z
    exact ⟨h1, ⟨z.mono fun r z => match r, z with
      | .ok fr d, z => wp_pu.mp z
      | .err x, z => wp_rz.mp z
      | .no, z => (wp_no.mp z).elim⟩⟩
  · intro h
    refine wp_mono h (fun l e' z => ?_) fun _ _ z => z
    refine wp_tst.mpr ⟨z.1, ?_⟩
    rw [wp_mb, wp_ltr]
    exact z.2.run.mono fun r z => match r, z with
      | .ok fr d, z => wp_pu.mpr z
      | .err x, z => wp_rz.mpr z
theorem wpF_all {t : Tr FO} {Φ : Bool → D → Prop} {Ψ : D → Prop} {P : FO → Prop} (h : wpF t Φ Ψ) (f : ∀ fr d, Φ fr d → P (.ok fr d)) (g : ∀ x, Ψ x → P (.err x)) : t.All P := Tr.All.mono h.run fun r z => match r, z with
  | .ok fr d, z => f fr d z
  | .err x, z => g x z
theorem wpF_mono {t : Tr FO} {Φ Φ' : Bool → D → Prop} {Ψ Ψ' : D → Prop} (h : wpF t Φ Ψ) (f : ∀ fr d, Φ fr d → Φ' fr d) (g : ∀ x, Ψ x → Ψ' x) : wpF t Φ' Ψ' := ⟨wpF_all h f g⟩
/-- a def's -/
theorem wpF_fnOf {n : Nat} {body : Ss} {ds : List D} {Φ : Bool → D → Prop} {Ψ : D → Prop} (h : wp (evSs sub F body) (ds.map (fun d => some (0, d)) ++ List.replicate (n - ds.length) none) (fun f _ => match f with
    | .nx => Φ true .non
    | .rt n d => Φ (n == 1 && top d == 1) d
    | _ => False) fun x _ => Ψ x) : wpF (fnOf sub F n body ds) Φ Ψ := by
  refine ⟨?_⟩
  unfold fnOf
  rw [Tr.all_bind]
  refine Tr.All.mono h.run fun r z => ?_
  match r, z with
  | .ok .nx e, z => exact z
  | .ok (.rt n d) e, z => exact z
  | .ok .bk e, z => exact z.elim
  | .ok .ct e, z => exact z.elim
  | .err x e, z => exact z
/-! ### one statement behind another -/
@[simp ↓] theorem wp_cons {s : S} {r : Ss} {Φ : Fl → Env → Prop} : wp (evSs sub F (.cons s r)) e Φ Ψ ↔ wp (evS sub F s) e (fun f e' => match f with | .nx => wp (evSs sub F r) e' Φ Ψ | f => Φ f e') Ψ := by
  show wp (mb (evS sub F s) _) e Φ Ψ ↔ _
  rw [wp_mb]
  constructor
  · intro h
    refine wp_mono h (fun f e' z => ?_) fun _ _ z => z
    cases f <;> first | exact z | exact wp.run z | exact ⟨z⟩
  · intro h
    refine wp_mono h (fun f e' z => ?_) fun _ _ z => z
    cases f <;> first | exact z | exact wp.run z | exact ⟨z⟩
@[simp ↓] theorem wp_nil {Φ : Fl → Env → Prop} : wp (evSs sub F .nil) e Φ Ψ ↔ Φ .nx e := wpi
@[simp ↓] theorem wp_ite {c : E} {a b : Ss} {Φ : Fl → Env → Prop} : wp (evS sub F (.ite c a b)) e Φ Ψ ↔ wp (ev sub F c).test e (fun t e' => if t = true then wp (evSs sub F a) e' Φ Ψ else wp (evSs sub F b) e' Φ Ψ) Ψ := by
  show wp (mb (ev sub F c).test _) e Φ Ψ ↔ _
  rw [wp_mb]
  constructor
  · intro h
    refine wp_mono h (fun t e' z => ?_) fun _ _ z => z
    cases t <;> first | exact z | exact wp.run z | exact ⟨z⟩
  · intro h
    refine wp_mono h (fun t e' z => ?_) fun _ _ z => z
    cases t <;> first | exact z | exact wp.run z | exact ⟨z⟩
/-! ### loops, comprehensions -/
/-- a loop over items, by what holds behind i of them -/
theorem wp_forL {bind : D → M Unit} {body : M Fl} {Φ : Fl → Env → Prop} (I : List D → Env → Prop) : ∀ (xs : List D) (e : Env), I xs e →
    (∀ x r e, I (x :: r) e → wp (bind x) e (fun _ e1 => wp body e1 (fun f e2 => match f with
      | .nx => I r e2
      | .ct => I r e2
      | .bk => Φ .nx e2
      | .rt n d => Φ (.rt n d) e2) Ψ) Ψ) → (∀ e, I [] e → Φ .nx e) → wp (forL bind body xs) e Φ Ψ
  | [], e, h, _, hd => ⟨hd e h⟩
  | x :: r, e, h, hs, hd => by
    show wp (mb (bind x) _) e Φ Ψ
    rw [wp_mb]
    refine wp_mono (hs x r e h) (fun _ e1 z => ?_) fun _ _ z => z
    rw [wp_mb]
    refine wp_mono z (fun f e2 z => ?_) fun _ _ z => z
    match f, z with
    | .nx, z => exact wp_forL I r e2 z hs hd
    | .ct, z => exact wp_forL I r e2 z hs hd
    | .bk, z => exact ⟨z⟩
    | .rt n d, z => exact ⟨z⟩
/-- the same outside of own -/
def Out (own : List Nat) (e e' : Env) : Prop := e'.length = e.length ∧ ∀ i, i ∉ own → e'[i]? = e[i]?
theorem Out.refl {own : List Nat} : Out own e e := ⟨rfl, fun _ _ => rfl⟩
theorem Out.trans {own : List Nat} {e1 e2 : Env} (a : Out own e e1) (b : Out own e1 e2) : Out own e e2 := ⟨b.1.trans a.1, fun i h => (b.2 i h).trans (a.2 i h)⟩
theorem Out.wipe {own : List Nat} : Out own e (wipeE own e) := by
  unfold wipeE
  suffices ∀ (l : List Nat) (e' : Env), (∀ i ∈ l, i ∈ own) → Out own e e' → Out own e (l.foldl (fun e i => e.set i none) e') from this own e (fun _ h => h) .refl
  intro l
  induction l with
  | nil => intro e' _ h; exact h
  | cons a l ih =>
    intro e' hm h
    refine ih _ (fun i hi => hm i (List.mem_cons_of_mem _ hi)) ⟨by simpa using h.1, fun i hi => ?_⟩
    rw [List.getElem?_set_ne fun z => hi (by rw [← z]; exact hm a List.mem_cons_self)]
    exact h.2 i hi
theorem Out.set {own : List Nat} {i : Nat} {x : Option (Nat × D)} {e1 : Env} (h : Out own e e1) (hi : i ∈ own) : Out own e (e1.set i x) :=
  ⟨by simpa using h.1, fun j hj => by rw [List.getElem?_set_ne fun z => hj (by rw [← z]; exact hi)]; exact h.2 j hj⟩
theorem back_out {own : List Nat} {e' : Env} (h : Out own e e') : backE own e e' = e := by
  unfold backE
  suffices ∀ (l : List Nat) (m : List Nat) (e1 : Env), (∀ i, i ∉ l ++ m → True) → e1.length = e.length → (∀ i, i ∉ m → e1[i]? = e[i]?) → m.foldl (fun e2 i => e2.set i ((e[i]?).getD none)) e1 = e from
    this [] own e' (fun _ _ => trivial) h.1 h.2
  intro l m
  induction m with
  | nil =>
    intro e1 _ hl h
    exact List.ext_getElem? fun i => h i (by simp)
  | cons a m ih =>
    intro e1 _ hl h
    refine ih _ (fun _ _ => trivial) (by simpa using hl) fun i hi => ?_
    by_cases z : a = i
    · subst z
      by_cases hlt : a < e1.length
      · rw [List.getElem?_set_self hlt, List.getElem?_eq_getElem (hl ▸ hlt)]
        rfl
      · rw [List.getElem?_eq_none (by simpa using hlt), List.getElem?_eq_none (by omega)]
    · rw [List.getElem?_set_ne z]
      exact h i (by simp only [List.mem_cons, not_or]; exact ⟨fun q => z q.symm, hi⟩)
/-- a comprehension's walk: by what holds behind some items -/
theorem wp_compE {tg own : List Nat} {test : M Bool} {elt : M (Nat × D)} {Φ : List D → Env → Prop} (I : List D → List D → Env → Prop) : ∀ (xs acc : List D) (e : Env), I xs acc e → acc.length + xs.length ≤ sizeLine →
    (∀ x r acc e, I (x :: r) acc e → wp (bindT tg x) (wipeE own e) (fun _ e1 => wp test e1 (fun t e2 => if t = true then wp elt e2 (fun y e3 => I r (acc ++ [y.2]) e3) Ψ else I r acc e2) Ψ) Ψ) → (∀ acc e, I [] acc e → Φ acc e) →
    wp (compE tg own test elt xs acc) e Φ Ψ
  | [], acc, e, h, _, _, hd => ⟨hd acc e h⟩
  | x :: r, acc, e, h, hl, hs, hd => by
    show wp (mb (fun e => .ret (.ok () (wipeE own e))) _) e Φ Ψ
    rw [wp_mb]
    rw [wpi]
    show wp (mb (bindT tg x) _) (wipeE own e) Φ Ψ
    rw [wp_mb]
    refine wp_mono (hs x r acc e h) (fun _ e1 z => ?_) fun _ _ z => z
    rw [wp_mb]
    refine wp_mono z (fun t e2 z => ?_) fun _ _ z => z
    simp only [List.length_cons] at hl
    cases t with
    | true =>
      simp only [if_true] at z ⊢
      rw [wp_mb]
      refine wp_mono z (fun y e3 z => ?_) fun _ _ z => z
      exact wp_tst.mpr ⟨by simp; omega, wp_compE I r _ e3 z (by simp; omega) hs hd⟩
    | false => exact wp_compE I r acc e2 z (by omega) hs hd
theorem wp_blk {own : List Nat} {m : M α} (hi : idle own e = true) (h : wp m e (fun a e' => Out own e e' ∧ Φ a e) fun _ _ => False) : wp (blkE own m) e Φ Ψ := by
  refine ⟨?_⟩
  unfold blkE
  rw [if_pos hi, Tr.all_bind]
  refine Tr.All.mono h.run fun r z => ?_
  match r, z with
  | .ok a e', z =>
    show Φ a (backE own e e')
    rw [back_out z.1]
    exact z.2
  | .err x e', z => exact z.elim
theorem wipe_len {own : List Nat} : (wipeE own e).length = e.length := Out.wipe.1
theorem wipe_out {own : List Nat} {i : Nat} (h : i ∉ own) : (wipeE own e)[i]? = e[i]? := Out.wipe.2 i h
theorem wipe_in {own : List Nat} {i : Nat} (h : i ∈ own) (hl : i < e.length) : (wipeE own e)[i]? = some none := by
  unfold wipeE
  suffices ∀ (l : List Nat) (e' : Env), e'.length = e.length → (i ∈ l ∨ e'[i]? = some none) → (l.foldl (fun e i => e.set i none) e')[i]? = some none from this own e rfl (.inl h)
  intro l
  induction l with
  | nil => intro e' _ z; exact z.elim (fun z => nomatch z) id
  | cons a l ih =>
    intro e' he z
    refine ih _ (by simpa using he) ?_
    by_cases q : a = i
    · exact .inr (by rw [q, List.getElem?_set_self (by omega)])
    · rcases z with z | z
      · exact .inl ((List.mem_cons.mp z).resolve_left fun y => q y.symm)
      · exact .inr (by rw [List.getElem?_set_ne q]; exact z)
theorem wipe_same {own : List Nat} {e' : Env} : Out own e e' ↔ wipeE own e' = wipeE own e := by
  constructor
  · intro h
    refine List.ext_getElem? fun i => ?_
    by_cases hi : i ∈ own
    · by_cases hl : i < e.length
      · rw [wipe_in hi hl, wipe_in hi (by rw [h.1]; exact hl)]
      · rw [List.getElem?_eq_none (by rw [wipe_len, h.1]; omega), List.getElem?_eq_none (by rw [wipe_len]; omega)]
    · rw [wipe_out hi, wipe_out hi, h.2 i hi]
  · intro h
    refine ⟨by rw [← wipe_len (own := own), h, wipe_len], fun i hi => ?_⟩
    rw [← wipe_out hi, h, wipe_out hi]
/-- a comprehension that draws nothing -/
theorem wp_lc {tg own : List Nat} {test : M Bool} {elt : M (Nat × D)} {xs : List D} {Φ : List D → Env → Prop} (keep : D → Bool) (f : D → D) (hi : idle own e = true) (hl : xs.length ≤ sizeLine)
    (hs : ∀ x ∈ xs, wp (bindT tg x) (wipeE own e) (fun _ e2 => wp test e2 (fun t e3 => t = keep x ∧ if t = true then wp elt e3 (fun y e4 => y.2 = f x ∧ wipeE own e4 = wipeE own e) (fun _ _ => False) else wipeE own e3 = wipeE own e) fun _ _ => False) fun _ _ => False)
    (h : Φ ((xs.filter keep).map f) e) : wp (blkE own (compE tg own test elt xs [])) e Φ Ψ := by
  refine wp_blk hi (wp_compE (fun r acc e' => wipeE own e' = wipeE own e ∧ (∀ x ∈ r, x ∈ xs) ∧ acc ++ (r.filter keep).map f = (xs.filter keep).map f) xs [] e ⟨rfl, fun _ h => h, rfl⟩ (by simpa using hl) (fun x r acc e' ⟨h1, h2, h3⟩ => ?_) fun acc e' ⟨h1, h2, h3⟩ => ⟨wipe_same.mpr h1, ?_⟩)
  · rw [h1]
    refine wp_mono (hs x (h2 x List.mem_cons_self)) (fun _ e2 z => wp_mono z (fun t e3 ⟨z1, z⟩ => ?_) fun _ _ z => z.elim) fun _ _ z => z.elim
    have h2' : ∀ y ∈ r, y ∈ xs := fun y hy => h2 y (List.mem_cons_of_mem _ hy)
    cases t with
    | true =>
      refine wp_mono z (fun y e4 ⟨z2, z3⟩ => ⟨z3, h2', ?_⟩) fun _ _ z => z.elim
      rw [List.filter_cons, if_pos z1.symm, List.map_cons] at h3
      rw [z2, List.append_assoc]
      exact h3
    | false =>
      refine ⟨z, h2', ?_⟩
      rw [List.filter_cons, if_neg (by rw [← z1]; exact Bool.false_ne_true)] at h3
      exact h3
  · have : acc = (xs.filter keep).map f := by simpa using h3
    rw [this]
    exact h
/-- .. without a test -/
theorem wp_lcA {tg own : List Nat} {elt : M (Nat × D)} {xs : List D} {Φ : List D → Env → Prop} (f : D → D) (hi : idle own e = true) (hl : xs.length ≤ sizeLine)
    (hs : ∀ x ∈ xs, wp (bindT tg x) (wipeE own e) (fun _ e2 => wp elt e2 (fun y e4 => y.2 = f x ∧ wipeE own e4 = wipeE own e) (fun _ _ => False)) fun _ _ => False)
    (h : Φ (xs.map f) e) : wp (blkE own (compE tg own (pu true) elt xs [])) e Φ Ψ := by
  refine wp_lc (fun _ => true) f hi hl (fun x hx => wp_mono (hs x hx) (fun _ e2 z => ⟨rfl, z⟩) fun _ _ z => z) ?_
  have : xs.filter (fun _ => true) = xs := List.filter_eq_self.mpr fun _ _ => rfl
  rw [this]
  exact h
/-- a call's end that is told -/
theorem wpF_det {t : Tr FO} {fr : Bool} {d : D} {Φ : Bool → D → Prop} {Ψ : D → Prop} (h : t = .ret (.ok fr d)) (k : Φ fr d) : wpF t Φ Ψ := by rw [h]; exact ⟨k⟩
theorem wp_det {m : M α} {a : α} {e' : Env} (h : m e = .ret (.ok a e')) (k : Φ a e') : wp m e Φ Ψ := ⟨by rw [h]; exact k⟩
/-- two statements that are reckoned -/
theorem wp_two {s t : S} {r : Ss} {e' : Env} {Φ : Fl → Env → Prop} (h : evSs sub F (.cons s (.cons t .nil)) e = .ret (.ok .nx e')) (k : wp (evSs sub F r) e' Φ Ψ) : wp (evSs sub F (.cons s (.cons t r))) e Φ Ψ := by
  have h2 : wp (evSs sub F (.cons s (.cons t .nil))) e (fun f e2 => f = .nx ∧ e2 = e') Ψ := ⟨by rw [h]; exact ⟨rfl, rfl⟩⟩
  rw [wp_cons] at h2 ⊢
  refine wp_mono h2 (fun f e1 z => ?_) fun _ _ z => z
  cases f with
  | nx =>
    simp only at z ⊢
    rw [wp_cons] at z ⊢
    refine wp_mono z (fun f e3 z => ?_) fun _ _ z => z
    cases f with
    | nx =>
      obtain ⟨_, rfl⟩ := wp_nil.mp z
      exact k
    | _ => cases z.1
  | _ => cases z.1
/-! ### simp's view -/
def look (o : Option (Option (Nat × D))) (Φ : Nat × D → Prop) : Prop := match o with
  | some (some r) => Φ r
  | _ => False
@[simp] theorem look_some {r : Nat × D} {Φ : Nat × D → Prop} : look (some (some r)) Φ ↔ Φ r := Iff.rfl
@[simp ↓] theorem wps_getE {i : Nat} {Φ : Nat × D → Env → Prop} : wp (getE i) e Φ Ψ ↔ look e[i]? fun r => Φ r e := by
  rw [wpi]
  unfold getE look
  cases e[i]? with
  | none => exact Iff.rfl
  | some o => cases o <;> exact Iff.rfl
@[simp ↓] theorem wps_setE {i : Nat} {r : Nat × D} {Φ : Unit → Env → Prop} : wp (setE i r) e Φ Ψ ↔ i < e.length ∧ Φ () (e.set i (some r)) := by
  rw [wpi]
  unfold setE
  split
  · rename_i h; exact ⟨fun z => ⟨h, z⟩, fun z => z.2⟩
  · rename_i h; exact ⟨fun z => z.elim, fun z => absurd z.1 h⟩
@[simp ↓] theorem wps_frzE {i : Nat} {Φ : Nat × D → Env → Prop} : wp (frzE i) e Φ Ψ ↔ look e[i]? fun r => Φ (0, r.2) (e.set i (some (0, r.2))) := by
  unfold frzE
  rw [wp_mb, wps_getE]
  unfold look
  cases h : e[i]? with
  | none => exact Iff.rfl
  | some o =>
    cases o with
    | none => exact Iff.rfl
    | some r =>
      show wp (mb (setE i (0, r.2)) fun _ => pu (0, r.2)) e Φ Ψ ↔ _
      rw [wp_mb, wp_setE (List.getElem?_eq_some_iff.mp h).1, wp_pu]
variable {x a b c : E} {es : Es} {ps : List Pl} {p : Pl}
@[simp ↓] theorem plOf_v {i : Nat} {m : M (Nat × D)} {Φ : Pl → Env → Prop} : wp (plOf (.v i) m) e Φ Ψ ↔ wp (mb (getE i) fun _ => pu (.v i)) e Φ Ψ := Iff.rfl
@[simp ↓] theorem plOf_c {d : D} {m : M (Nat × D)} {Φ : Pl → Env → Prop} : wp (plOf (.c d) m) e Φ Ψ ↔ wp (mb m fun r => pu (.t r.1 r.2)) e Φ Ψ := Iff.rfl
@[simp ↓] theorem plOf_g {z : Str} {d : D} {m : M (Nat × D)} {Φ : Pl → Env → Prop} : wp (plOf (.g z d) m) e Φ Ψ ↔ wp (mb m fun r => pu (.t r.1 r.2)) e Φ Ψ := Iff.rfl
@[simp ↓] theorem plOf_tup {m : M (Nat × D)} {Φ : Pl → Env → Prop} : wp (plOf (.tup es) m) e Φ Ψ ↔ wp (mb m fun r => pu (.t r.1 r.2)) e Φ Ψ := Iff.rfl
@[simp ↓] theorem plOf_lst {m : M (Nat × D)} {Φ : Pl → Env → Prop} : wp (plOf (.lst es) m) e Φ Ψ ↔ wp (mb m fun r => pu (.t r.1 r.2)) e Φ Ψ := Iff.rfl
@[simp ↓] theorem plOf_b {o : B} {m : M (Nat × D)} {Φ : Pl → Env → Prop} : wp (plOf (.b o es) m) e Φ Ψ ↔ wp (mb m fun r => pu (.t r.1 r.2)) e Φ Ψ := Iff.rfl
@[simp ↓] theorem plOf_not {m : M (Nat × D)} {Φ : Pl → Env → Prop} : wp (plOf (.not a) m) e Φ Ψ ↔ wp (mb m fun r => pu (.t r.1 r.2)) e Φ Ψ := Iff.rfl
@[simp ↓] theorem plOf_and {m : M (Nat × D)} {Φ : Pl → Env → Prop} : wp (plOf (.and a b) m) e Φ Ψ ↔ wp (mb m fun r => pu (.t r.1 r.2)) e Φ Ψ := Iff.rfl
@[simp ↓] theorem plOf_or {m : M (Nat × D)} {Φ : Pl → Env → Prop} : wp (plOf (.or a b) m) e Φ Ψ ↔ wp (mb m fun r => pu (.t r.1 r.2)) e Φ Ψ := Iff.rfl
@[simp ↓] theorem plOf_ite {m : M (Nat × D)} {Φ : Pl → Env → Prop} : wp (plOf (.ite c a b) m) e Φ Ψ ↔ wp (mb m fun r => pu (.t r.1 r.2)) e Φ Ψ := Iff.rfl
@[simp ↓] theorem plOf_ch {o o' : B} {m : M (Nat × D)} {Φ : Pl → Env → Prop} : wp (plOf (.ch o o' a b c) m) e Φ Ψ ↔ wp (mb m fun r => pu (.t r.1 r.2)) e Φ Ψ := Iff.rfl
@[simp ↓] theorem plOf_sl {m : M (Nat × D)} {Φ : Pl → Env → Prop} : wp (plOf (.sl a b c) m) e Φ Ψ ↔ wp (mb m fun r => pu (.t r.1 r.2)) e Φ Ψ := Iff.rfl
@[simp ↓] theorem plOf_rv {m : M (Nat × D)} {Φ : Pl → Env → Prop} : wp (plOf (.rv a) m) e Φ Ψ ↔ wp (mb m fun r => pu (.t r.1 r.2)) e Φ Ψ := Iff.rfl
@[simp ↓] theorem plOf_f {j : Nat} {kw : List Str} {o : List Nat} {m : M (Nat × D)} {Φ : Pl → Env → Prop} : wp (plOf (.f j es kw o) m) e Φ Ψ ↔ wp (mb m fun r => pu (.t r.1 r.2)) e Φ Ψ := Iff.rfl
@[simp ↓] theorem plOf_mu {o : Mu} {i : Nat} {m : M (Nat × D)} {Φ : Pl → Env → Prop} : wp (plOf (.mu o i es) m) e Φ Ψ ↔ wp (mb m fun r => pu (.t r.1 r.2)) e Φ Ψ := Iff.rfl
@[simp ↓] theorem plOf_lc {own : List (Str × Nat)} {tg : List Nat} {it : It} {cs : Es} {m : M (Nat × D)} {Φ : Pl → Env → Prop} : wp (plOf (.lc own tg it es cs x) m) e Φ Ψ ↔ wp (mb m fun r => pu (.t r.1 r.2)) e Φ Ψ := Iff.rfl
@[simp ↓] theorem plOf_dd {m : M (Nat × D)} {Φ : Pl → Env → Prop} : wp (plOf (.dd es) m) e Φ Ψ ↔ wp (mb m fun r => pu (.t r.1 r.2)) e Φ Ψ := Iff.rfl
@[simp ↓] theorem plOf_mk {k : Nat} {m : M (Nat × D)} {Φ : Pl → Env → Prop} : wp (plOf (.mk k es) m) e Φ Ψ ↔ wp (mb m fun r => pu (.t r.1 r.2)) e Φ Ψ := Iff.rfl
@[simp ↓] theorem rdP_t {n : Nat} {d : D} {Φ : Nat × D → Env → Prop} : wp (rdP (.t n d)) e Φ Ψ ↔ wp (pu (n, d)) e Φ Ψ := Iff.rfl
@[simp ↓] theorem rdP_v {i : Nat} {Φ : Nat × D → Env → Prop} : wp (rdP (.v i)) e Φ Ψ ↔ wp (getE i) e Φ Ψ := Iff.rfl
@[simp ↓] theorem vlP_t {n : Nat} {d : D} {Φ : Nat × D → Env → Prop} : wp (vlP (.t n d)) e Φ Ψ ↔ wp (pu (n, d)) e Φ Ψ := Iff.rfl
@[simp ↓] theorem vlP_v {i : Nat} {Φ : Nat × D → Env → Prop} : wp (vlP (.v i)) e Φ Ψ ↔ wp (frzE i) e Φ Ψ := Iff.rfl
@[simp ↓] theorem rdPs_nil {Φ : List (Nat × D) → Env → Prop} : wp (rdPs []) e Φ Ψ ↔ wp (pu []) e Φ Ψ := Iff.rfl
@[simp ↓] theorem rdPs_cons {Φ : List (Nat × D) → Env → Prop} : wp (rdPs (p :: ps)) e Φ Ψ ↔ wp (mb (rdP p) fun a => mb (rdPs ps) fun l => pu (a :: l)) e Φ Ψ := Iff.rfl
@[simp ↓] theorem vlPs_nil {Φ : List (Nat × D) → Env → Prop} : wp (vlPs []) e Φ Ψ ↔ wp (pu []) e Φ Ψ := Iff.rfl
@[simp ↓] theorem vlPs_cons {Φ : List (Nat × D) → Env → Prop} : wp (vlPs (p :: ps)) e Φ Ψ ↔ wp (mb (vlP p) fun a => mb (vlPs ps) fun l => pu (a :: l)) e Φ Ψ := Iff.rfl
@[simp ↓] theorem evPs_nil {Φ : List Pl → Env → Prop} : wp (evPs sub F .nil) e Φ Ψ ↔ wp (pu []) e Φ Ψ := Iff.rfl
@[simp ↓] theorem evPs_cons {r : Es} {Φ : List Pl → Env → Prop} : wp (evPs sub F (.cons x r)) e Φ Ψ ↔ wp (mb (plOf x (ev sub F x).val) fun p => mb (evPs sub F r) fun ps => pu (p :: ps)) e Φ Ψ := Iff.rfl
@[simp ↓] theorem evTs_nil {Φ : Bool → Env → Prop} : wp (evTs sub F .nil) e Φ Ψ ↔ wp (pu true) e Φ Ψ := Iff.rfl
@[simp ↓] theorem wp_evTs {r : Es} {Φ : Bool → Env → Prop} : wp (evTs sub F (.cons x r)) e Φ Ψ ↔ wp (ev sub F x).test e (fun t e' => if t = true then wp (evTs sub F r) e' Φ Ψ else Φ false e') Ψ := by
  show wp (mb (ev sub F x).test _) e Φ Ψ ↔ _
  rw [wp_mb]
  constructor
  · intro h
    refine wp_mono h (fun t e' z => ?_) fun _ _ z => z
    cases t <;> first | exact z | exact wp.run z | exact ⟨z⟩
  · intro h
    refine wp_mono h (fun t e' z => ?_) fun _ _ z => z
    cases t <;> first | exact z | exact wp.run z | exact ⟨z⟩
@[simp ↓] theorem wp_bopE {o : B} {Φ : Nat × D → Env → Prop} : wp (bopE sub o ps) e Φ Ψ ↔ wp (rdPs ps) e (fun l e' => okN l = true ∧ ∃ d, bsem sub o (l.map (·.2)) = some d ∧ Φ (bopN o d, d) e') Ψ := by
  unfold bopE
  simp only [wp_mb, wp_tst, wp_op, wp_pu]
@[simp ↓] theorem wp_truthE {r : Nat × D} {Φ : Bool → Env → Prop} : wp (truthE r) e Φ Ψ ↔ ∃ t, r.2.truth = some t ∧ Φ t e := by
  unfold truthE
  rw [wp_op]
@[simp ↓] theorem val_v {i : Nat} {Φ : Nat × D → Env → Prop} : wp ((ev sub F (.v i)).val) e Φ Ψ ↔ wp (frzE i) e Φ Ψ := Iff.rfl
@[simp ↓] theorem val_c {d : D} {Φ : Nat × D → Env → Prop} : wp ((ev sub F (.c d)).val) e Φ Ψ ↔ wp (pu (1, d)) e Φ Ψ := Iff.rfl
@[simp ↓] theorem val_g {z : Str} {d : D} {Φ : Nat × D → Env → Prop} : wp ((ev sub F (.g z d)).val) e Φ Ψ ↔ wp (pu (1, d)) e Φ Ψ := Iff.rfl
@[simp ↓] theorem val_tup {Φ : Nat × D → Env → Prop} : wp ((ev sub F (.tup es)).val) e Φ Ψ ↔ wp (mb (evPs sub F es) fun ps => mb (vlPs ps) fun l => tst (decide (l.length ≤ 1000)) (pu (0, .tup (l.map (·.2))))) e Φ Ψ := Iff.rfl
@[simp ↓] theorem val_lst {Φ : Nat × D → Env → Prop} : wp ((ev sub F (.lst es)).val) e Φ Ψ ↔ wp (mb (evPs sub F es) fun ps => mb (vlPs ps) fun l => tst (decide (l.length ≤ 1000)) (pu (1, .lst (l.map (·.2))))) e Φ Ψ := Iff.rfl
@[simp ↓] theorem val_b {o : B} {Φ : Nat × D → Env → Prop} : wp ((ev sub F (.b o es)).val) e Φ Ψ ↔ wp (mb (evPs sub F es) fun ps => bopE sub o ps) e Φ Ψ := Iff.rfl
@[simp ↓] theorem val_not {Φ : Nat × D → Env → Prop} : wp ((ev sub F (.not a)).val) e Φ Ψ ↔ wp (mb (plOf a (ev sub F a).val) fun p => mb (rdP p) fun r => mb (truthE r) fun t => pu (1, .bl (!t))) e Φ Ψ := Iff.rfl
@[simp ↓] theorem wp_and {Φ : Nat × D → Env → Prop} : wp (ev sub F (.and a b)).val e Φ Ψ ↔ wp (ev sub F a).val e (fun x e' => ∃ t, x.2.truth = some t ∧ if t = true then wp (ev sub F b).val e' Φ Ψ else Φ x e') Ψ := by
  show wp (mb (ev sub F a).val _) e Φ Ψ ↔ _
  simp only [wp_mb, wp_truthE]
  constructor <;> intro h <;> refine wp_mono h (fun x e' ⟨t, z1, z⟩ => ⟨t, z1, ?_⟩) fun _ _ z => z
  · cases t <;> first | exact z | exact wp.run z | exact ⟨z⟩
  · cases t <;> first | exact z | exact wp.run z | exact ⟨z⟩
@[simp ↓] theorem wp_or {Φ : Nat × D → Env → Prop} : wp (ev sub F (.or a b)).val e Φ Ψ ↔ wp (ev sub F a).val e (fun x e' => ∃ t, x.2.truth = some t ∧ if t = true then Φ x e' else wp (ev sub F b).val e' Φ Ψ) Ψ := by
  show wp (mb (ev sub F a).val _) e Φ Ψ ↔ _
  simp only [wp_mb, wp_truthE]
  constructor <;> intro h <;> refine wp_mono h (fun x e' ⟨t, z1, z⟩ => ⟨t, z1, ?_⟩) fun _ _ z => z
  · cases t <;> first | exact z | exact wp.run z | exact ⟨z⟩
  · cases t <;> first | exact z | exact wp.run z | exact ⟨z⟩
@[simp ↓] theorem wp_itev {Φ : Nat × D → Env → Prop} : wp (ev sub F (.ite c a b)).val e Φ Ψ ↔ wp (ev sub F c).test e (fun t e' => if t = true then wp (ev sub F a).val e' Φ Ψ else wp (ev sub F b).val e' Φ Ψ) Ψ := by
  show wp (mb (ev sub F c).test _) e Φ Ψ ↔ _
  rw [wp_mb]
  constructor <;> intro h <;> refine wp_mono h (fun t e' z => ?_) fun _ _ z => z
  · cases t <;> first | exact z | exact wp.run z | exact ⟨z⟩
  · cases t <;> first | exact z | exact wp.run z | exact ⟨z⟩
@[simp ↓] theorem wp_ch {o o' : B} {Φ : Nat × D → Env → Prop} : wp (ev sub F (.ch o o' a b c)).val e Φ Ψ ↔ wp (plOf a (ev sub F a).val) e (fun x e1 => wp (plOf b (ev sub F b).val) e1 (fun y e2 => wp (bopE sub o [x, y]) e2 (fun r e3 => ∃ t, r.2.truth = some t ∧ if t = true then wp (plOf c (ev sub F c).val) e3 (fun z e4 => wp (bopE sub o' [y, z]) e4 Φ Ψ) Ψ else Φ r e3) Ψ) Ψ) Ψ := by
  show wp (mb (plOf a (ev sub F a).val) _) e Φ Ψ ↔ _
  simp only [wp_mb, wp_truthE]
  constructor <;> intro h <;> refine wp_mono h (fun x e' z => wp_mono z (fun y e2 z => wp_mono z (fun r e3 ⟨t, z1, z⟩ => ⟨t, z1, ?_⟩) fun _ _ z => z) fun _ _ z => z) fun _ _ z => z
  · cases t
    · exact wp.run z
    · exact (wp_mb.mp z)
  · cases t
    · exact ⟨z⟩
    · exact (wp_mb.mpr z)
@[simp ↓] theorem val_f {j : Nat} {kw : List Str} {o : List Nat} {Φ : Nat × D → Env → Prop} : wp ((ev sub F (.f j es kw o)).val) e Φ Ψ ↔ wp (mb (evPs sub F es) fun ps => callE F j ps o) e Φ Ψ := Iff.rfl
@[simp ↓] theorem val_mu {o : Mu} {i : Nat} {Φ : Nat × D → Env → Prop} : wp ((ev sub F (.mu o i es)).val) e Φ Ψ ↔ wp (mb (getE i) fun x0 => tst (isL x0.2) (mb (evPs sub F es) fun ps => mb (vlPs ps) fun l => muE o i (l.map (·.2)))) e Φ Ψ := Iff.rfl
@[simp ↓] theorem val_lc {own : List (Str × Nat)} {tg : List Nat} {it : It} {cs : Es} {Φ : Nat × D → Env → Prop} : wp ((ev sub F (.lc own tg it es cs x)).val) e Φ Ψ ↔ wp (mb (evPs sub F es) fun ps => mb (vlPs ps) fun l => mb (op (isem it (l.map (·.2)))) fun xs => mb (blkE (own.map (·.2)) (compE tg (own.map (·.2)) (evTs sub F cs) (ev sub F x).val xs [])) fun r => pu (1, .lst r)) e Φ Ψ := Iff.rfl
@[simp ↓] theorem val_dd {Φ : Nat × D → Env → Prop} : wp ((ev sub F (.dd es)).val) e Φ Ψ ↔ wp (mb (evPs sub F es) fun ps => mb (vlPs ps) fun l => mb (op (ddS (l.map (·.2)) [])) fun r => pu (1, .dct r)) e Φ Ψ := Iff.rfl
@[simp ↓] theorem val_mk {k : Nat} {Φ : Nat × D → Env → Prop} : wp ((ev sub F (.mk k es)).val) e Φ Ψ ↔ wp (mb (evPs sub F es) fun ps => mb (vlPs ps) fun l => tst (decide (l.length ≤ 1000) && !(sub k).isEmpty) (pu (0, .exn k (l.map (·.2))))) e Φ Ψ := Iff.rfl
@[simp ↓] theorem val_sl {Φ : Nat × D → Env → Prop} : wp ((ev sub F (.sl a b c)).val) e Φ Ψ ↔ wp (mb (plOf a (ev sub F a).val) fun x => mb (plOf b (ev sub F b).val) fun y => mb (rdP y) fun r => tst (isI r.2) (mb (plOf c (ev sub F c).val) fun z => bopE sub (.slc true true) [x, y, z])) e Φ Ψ := Iff.rfl
@[simp ↓] theorem val_rv {Φ : Nat × D → Env → Prop} : wp ((ev sub F (.rv a)).val) e Φ Ψ ↔ wp (mb (plOf a (ev sub F a).val) fun x => bopE sub .rev [x]) e Φ Ψ := Iff.rfl
@[simp ↓] theorem test_v {i : Nat} {Φ : Bool → Env → Prop} : wp ((ev sub F (.v i)).test) e Φ Ψ ↔ wp (mb (plOf (.v i) (ev sub F (.v i)).val) fun p => mb (rdP p) truthE) e Φ Ψ := Iff.rfl
@[simp ↓] theorem test_c {d : D} {Φ : Bool → Env → Prop} : wp ((ev sub F (.c d)).test) e Φ Ψ ↔ wp (mb (plOf (.c d) (ev sub F (.c d)).val) fun p => mb (rdP p) truthE) e Φ Ψ := Iff.rfl
@[simp ↓] theorem test_b {o : B} {Φ : Bool → Env → Prop} : wp ((ev sub F (.b o es)).test) e Φ Ψ ↔ wp (mb (plOf (.b o es) (ev sub F (.b o es)).val) fun p => mb (rdP p) truthE) e Φ Ψ := Iff.rfl
@[simp ↓] theorem test_f {j : Nat} {kw : List Str} {o : List Nat} {Φ : Bool → Env → Prop} : wp ((ev sub F (.f j es kw o)).test) e Φ Ψ ↔ wp (mb (plOf (.f j es kw o) (ev sub F (.f j es kw o)).val) fun p => mb (rdP p) truthE) e Φ Ψ := Iff.rfl
@[simp ↓] theorem test_ch {o o' : B} {Φ : Bool → Env → Prop} : wp ((ev sub F (.ch o o' a b c)).test) e Φ Ψ ↔ wp (mb (plOf (.ch o o' a b c) (ev sub F (.ch o o' a b c)).val) fun p => mb (rdP p) truthE) e Φ Ψ := Iff.rfl
@[simp ↓] theorem test_not {Φ : Bool → Env → Prop} : wp ((ev sub F (.not a)).test) e Φ Ψ ↔ wp (mb (ev sub F a).test fun t => pu (!t)) e Φ Ψ := Iff.rfl
@[simp ↓] theorem wp_andt {Φ : Bool → Env → Prop} : wp (ev sub F (.and a b)).test e Φ Ψ ↔ wp (ev sub F a).test e (fun t e' => if t = true then wp (ev sub F b).test e' Φ Ψ else Φ false e') Ψ := by
  show wp (mb (ev sub F a).test _) e Φ Ψ ↔ _
  rw [wp_mb]
  constructor <;> intro h <;> refine wp_mono h (fun t e' z => ?_) fun _ _ z => z
  · cases t <;> first | exact z | exact wp.run z | exact ⟨z⟩
  · cases t <;> first | exact z | exact wp.run z | exact ⟨z⟩
@[simp ↓] theorem wp_ort {Φ : Bool → Env → Prop} : wp (ev sub F (.or a b)).test e Φ Ψ ↔ wp (ev sub F a).test e (fun t e' => if t = true then Φ true e' else wp (ev sub F b).test e' Φ Ψ) Ψ := by
  show wp (mb (ev sub F a).test _) e Φ Ψ ↔ _
  rw [wp_mb]
  constructor <;> intro h <;> refine wp_mono h (fun t e' z => ?_) fun _ _ z => z
  · cases t <;> first | exact z | exact wp.run z | exact ⟨z⟩
  · cases t <;> first | exact z | exact wp.run z | exact ⟨z⟩
@[simp ↓] theorem wp_itet {Φ : Bool → Env → Prop} : wp (ev sub F (.ite c a b)).test e Φ Ψ ↔ wp (ev sub F c).test e (fun t e' => if t = true then wp (ev sub F a).test e' Φ Ψ else wp (ev sub F b).test e' Φ Ψ) Ψ := by
  show wp (mb (ev sub F c).test _) e Φ Ψ ↔ _
  rw [wp_mb]
  constructor <;> intro h <;> refine wp_mono h (fun t e' z => ?_) fun _ _ z => z
  · cases t <;> first | exact z | exact wp.run z | exact ⟨z⟩
  · cases t <;> first | exact z | exact wp.run z | exact ⟨z⟩
@[simp ↓] theorem wp_muE {o : Mu} {i : Nat} {ds : List D} {Φ : Nat × D → Env → Prop} : wp (muE o i ds) e Φ Ψ ↔ look e[i]? fun x => (x.1 == 1) = true ∧ ∃ r, msem o x.2 ds = some r ∧ i < e.length ∧ Φ (0, r.2) (e.set i (some (1, r.1))) := by
  unfold muE
  simp only [wp_mb, wps_getE, wp_tst, wp_op, wps_setE, wp_pu]
variable {Φ : Fl → Env → Prop}
@[simp ↓] theorem s_asg {i : Nat} {Φ : Fl → Env → Prop} : wp (evS sub F (.asg i x)) e Φ Ψ ↔ wp (mb (ev sub F x).val fun r => mb (setE i r) fun _ => pu .nx) e Φ Ψ := Iff.rfl
@[simp ↓] theorem s_par {is : List Nat} {Φ : Fl → Env → Prop} : wp (evS sub F (.par is es)) e Φ Ψ ↔ wp (mb (evPs sub F es) fun ps => mb (vlPs ps) fun l => mb (setAll is l) fun _ => pu .nx) e Φ Ψ := Iff.rfl
@[simp ↓] theorem s_unp {is : List Nat} {Φ : Fl → Env → Prop} : wp (evS sub F (.unp is x)) e Φ Ψ ↔ wp (mb (ev sub F x).val fun r => mb (unpE is r.2) fun _ => pu .nx) e Φ Ψ := Iff.rfl
@[simp ↓] theorem s_put {i : Nat} {Φ : Fl → Env → Prop} : wp (evS sub F (.put i a x)) e Φ Ψ ↔ wp (mb (getE i) fun _ => mb (evPs sub F (.cons x (.cons a .nil))) fun ps => mb (vlPs ps) fun l => mb (muE .put i (l.map (·.2)).reverse) fun _ => pu .nx) e Φ Ψ := Iff.rfl
@[simp ↓] theorem s_ex {Φ : Fl → Env → Prop} : wp (evS sub F (.ex x)) e Φ Ψ ↔ wp (mb (plOf x (ev sub F x).val) fun _ => pu .nx) e Φ Ψ := Iff.rfl
@[simp ↓] theorem s_ret {Φ : Fl → Env → Prop} : wp (evS sub F (.ret x)) e Φ Ψ ↔ wp (mb (ev sub F x).val fun r => pu (.rt r.1 r.2)) e Φ Ψ := Iff.rfl
@[simp ↓] theorem s_ret0 {Φ : Fl → Env → Prop} : wp (evS sub F .ret0) e Φ Ψ ↔ wp (pu (.rt 1 .non)) e Φ Ψ := Iff.rfl
@[simp ↓] theorem s_brk {Φ : Fl → Env → Prop} : wp (evS sub F .brk) e Φ Ψ ↔ wp (pu .bk) e Φ Ψ := Iff.rfl
@[simp ↓] theorem s_cnt {Φ : Fl → Env → Prop} : wp (evS sub F .cnt) e Φ Ψ ↔ wp (pu .ct) e Φ Ψ := Iff.rfl
@[simp ↓] theorem s_pss {Φ : Fl → Env → Prop} : wp (evS sub F .pss) e Φ Ψ ↔ wp (pu .nx) e Φ Ψ := Iff.rfl
@[simp ↓] theorem s_for {tg : List Nat} {it : It} {b : Ss} {Φ : Fl → Env → Prop} : wp (evS sub F (.for_ tg it es b)) e Φ Ψ ↔ wp (mb (evPs sub F es) fun ps => mb (vlPs ps) fun l => mb (op (isem it (l.map (·.2)))) fun xs => forL (bindT tg) (evSs sub F b) xs) e Φ Ψ := Iff.rfl
@[simp ↓] theorem s_rse {k : Nat} {Φ : Fl → Env → Prop} : wp (evS sub F (.rse k es)) e Φ Ψ ↔ wp (mb (evPs sub F es) fun ps => mb (vlPs ps) fun l => tst (decide (l.length ≤ 1000) && !(sub k).isEmpty) (rz (.exn k (l.map (·.2))))) e Φ Ψ := Iff.rfl
@[simp ↓] theorem wp_try {b h : Ss} {k : Nat} {i : Option Nat} : wp (evS sub F (.try_ b k i h)) e Φ Ψ ↔ wp (evSs sub F b) e Φ (fun x e' => (tryK sub k i (evSs sub F h) (.err x e')).All (pst Φ Ψ)) := by
  rw [wpi, wpi]
  show ((evSs sub F b e).bind _).All _ ↔ _
  rw [Tr.all_bind]
  constructor <;> intro h <;> refine Tr.All.mono h fun r z => ?_
  · match r, z with
    | .ok f e', z => cases f <;> exact z
    | .err x e', z => exact z
  · match r, z with
    | .ok f e', z => cases f <;> exact z
    | .err x e', z => exact z
@[simp ↓] theorem bindT_1 {i : Nat} {d : D} {Φ : Unit → Env → Prop} : wp (bindT [i] d) e Φ Ψ ↔ wp (setE i (0, d)) e Φ Ψ := Iff.rfl
@[simp ↓] theorem bindT_2 {i j : Nat} {l : List D} {Φ : Unit → Env → Prop} : wp (bindT [i, j] (.tup l)) e Φ Ψ ↔ wp (bindTs [i, j] l) e Φ Ψ := Iff.rfl
@[simp ↓] theorem bindT_3 {i j k : Nat} {l : List D} {Φ : Unit → Env → Prop} : wp (bindT [i, j, k] (.tup l)) e Φ Ψ ↔ wp (bindTs [i, j, k] l) e Φ Ψ := Iff.rfl
@[simp ↓] theorem bindTs_nil {Φ : Unit → Env → Prop} : wp (bindTs [] []) e Φ Ψ ↔ wp (pu ()) e Φ Ψ := Iff.rfl
@[simp ↓] theorem bindTs_cons {i : Nat} {is : List Nat} {d : D} {ds : List D} {Φ : Unit → Env → Prop} : wp (bindTs (i :: is) (d :: ds)) e Φ Ψ ↔ wp (mb (setE i (0, d)) fun _ => bindTs is ds) e Φ Ψ := Iff.rfl
@[simp ↓] theorem setAll_nil {Φ : Unit → Env → Prop} : wp (setAll [] []) e Φ Ψ ↔ wp (pu ()) e Φ Ψ := Iff.rfl
@[simp ↓] theorem setAll_cons {i : Nat} {is : List Nat} {d : Nat × D} {ds : List (Nat × D)} {Φ : Unit → Env → Prop} : wp (setAll (i :: is) (d :: ds)) e Φ Ψ ↔ wp (mb (setE i d) fun _ => setAll is ds) e Φ Ψ := Iff.rfl
@[simp ↓] theorem unpE_tup {is : List Nat} {l : List D} {Φ : Unit → Env → Prop} : wp (unpE is (.tup l)) e Φ Ψ ↔ wp (bindTs is l) e Φ Ψ := Iff.rfl
@[simp] theorem okN_nil : okN [] = true := rfl
@[simp] theorem okN_cons {r : Nat × D} {l : List (Nat × D)} : okN (r :: l) = (ok1 r.1 r.2 && okN l) := rfl
@[simp] theorem ok1_0 {d : D} : ok1 0 d = true := by cases d <;> rfl
/-! ### data -/
@[simp] theorem top_int {i : Int} : top (.int i) = 0 := rfl
@[simp] theorem top_bl {i : Bool} : top (.bl i) = 0 := rfl
@[simp] theorem top_str {i : Str} : top (.str i) = 0 := rfl
@[simp] theorem top_tup {i : List D} : top (.tup i) = 0 := rfl
@[simp] theorem top_lst {i : List D} : top (.lst i) = 1 := rfl
@[simp] theorem top_dct {i : List (D × D)} : top (.dct i) = 1 := rfl
@[simp] theorem top_set {i : List D} : top (.set i) = 1 := rfl
@[simp] theorem top_non  : top .non = 0 := rfl
@[simp] theorem top_exn {c : Nat} {i : List D} : top (.exn c i) = 0 := rfl
@[simp] theorem ok1_int {i : Int} : ok1 1 (.int i) = true := rfl
@[simp] theorem ok1_bl {i : Bool} : ok1 1 (.bl i) = true := rfl
@[simp] theorem ok1_str {i : Str} : ok1 1 (.str i) = true := rfl
@[simp] theorem ok1_lst {i : List D} : ok1 1 (.lst i) = true := rfl
@[simp] theorem ok1_dct {i : List (D × D)} : ok1 1 (.dct i) = true := rfl
@[simp] theorem ok1_set {i : List D} : ok1 1 (.set i) = true := rfl
@[simp] theorem ok1_non  : ok1 1 .non = true := rfl
@[simp] theorem bopN_idx {d : D} : bopN .idx d = 0 := rfl
@[simp] theorem bopN_get1 {d : D} : bopN .get1 d = 0 := rfl
@[simp] theorem bopN_get2 {d : D} : bopN .get2 d = 0 := rfl
@[simp] theorem bopN_att {t : List (Nat × Nat)} {d : D} : bopN (.att t) d = 0 := rfl
@[simp] theorem bopN_add {d : D} : bopN .add d = top d := rfl
@[simp] theorem bopN_sub {d : D} : bopN .sub d = top d := rfl
@[simp] theorem bopN_mul {d : D} : bopN .mul d = top d := rfl
@[simp] theorem bopN_fdiv {d : D} : bopN .fdiv d = top d := rfl
@[simp] theorem bopN_mod {d : D} : bopN .mod d = top d := rfl
@[simp] theorem bopN_pow {d : D} : bopN .pow d = top d := rfl
@[simp] theorem bopN_neg {d : D} : bopN .neg d = top d := rfl
@[simp] theorem bopN_eq {d : D} : bopN .eq d = top d := rfl
@[simp] theorem bopN_ne {d : D} : bopN .ne d = top d := rfl
@[simp] theorem bopN_lt {d : D} : bopN .lt d = top d := rfl
@[simp] theorem bopN_le {d : D} : bopN .le d = top d := rfl
@[simp] theorem bopN_gt {d : D} : bopN .gt d = top d := rfl
@[simp] theorem bopN_ge {d : D} : bopN .ge d = top d := rfl
@[simp] theorem bopN_isN {d : D} : bopN .isN d = top d := rfl
@[simp] theorem bopN_notN {d : D} : bopN .notN d = top d := rfl
@[simp] theorem bopN_inn {d : D} : bopN .inn d = top d := rfl
@[simp] theorem bopN_nin {d : D} : bopN .nin d = top d := rfl
@[simp] theorem bopN_rev {d : D} : bopN .rev d = top d := rfl
@[simp] theorem bopN_len {d : D} : bopN .len d = top d := rfl
@[simp] theorem bopN_list {d : D} : bopN .list d = top d := rfl
@[simp] theorem bopN_tuple {d : D} : bopN .tuple d = top d := rfl
@[simp] theorem bopN_set {d : D} : bopN .set d = top d := rfl
@[simp] theorem bopN_sorted {d : D} : bopN .sorted d = top d := rfl
@[simp] theorem bopN_dict {d : D} : bopN .dict d = top d := rfl
@[simp] theorem bopN_abs {d : D} : bopN .abs d = top d := rfl
@[simp] theorem bopN_int {d : D} : bopN .int d = top d := rfl
@[simp] theorem bopN_max2 {d : D} : bopN .max2 d = top d := rfl
@[simp] theorem bopN_min2 {d : D} : bopN .min2 d = top d := rfl
@[simp] theorem bopN_maxL {d : D} : bopN .maxL d = top d := rfl
@[simp] theorem bopN_minL {d : D} : bopN .minL d = top d := rfl
@[simp] theorem bopN_sum {d : D} : bopN .sum d = top d := rfl
@[simp] theorem bopN_any {d : D} : bopN .any d = top d := rfl
@[simp] theorem bopN_all {d : D} : bopN .all d = top d := rfl
@[simp] theorem bopN_repr {d : D} : bopN .repr d = top d := rfl
@[simp] theorem bopN_tupR {d : D} : bopN .tupR d = top d := rfl
@[simp] theorem bopN_listR {d : D} : bopN .listR d = top d := rfl
@[simp] theorem bopN_isi {ts : List Ty} {b : Bool} {d : D} : bopN (.isi ts b) d = top d := rfl
@[simp] theorem bopN_isx {t : Ty} {d : D} : bopN (.isx t) d = top d := rfl
@[simp] theorem bopN_slc {x y : Bool} {d : D} : bopN (.slc x y) d = top d := rfl
@[simp] theorem tr_non  : D.truth .non = some false := rfl
@[simp] theorem tr_bl {b : Bool} : D.truth (.bl b) = some b := rfl
@[simp] theorem tr_int {i : Int} : D.truth (.int i) = some (i != 0) := rfl
@[simp] theorem tr_tup {l : List D} : D.truth (.tup l) = some (!l.isEmpty) := rfl
@[simp] theorem tr_lst {l : List D} : D.truth (.lst l) = some (!l.isEmpty) := rfl
@[simp] theorem bs_add {ds : List D} : bsem sub .add ds = bAdd ds := rfl
@[simp] theorem bAdd_ii {a b : Int} : bAdd [.int a, .int b] = some (.int (a + b)) := rfl
@[simp] theorem bAdd_str {a b : Str} : bAdd [.str a, .str b] = if a.length + b.length ≤ sizeLine then some (.str (a ++ b)) else none := rfl
@[simp] theorem bAdd_lst {a b : List D} : bAdd [.lst a, .lst b] = if a.length + b.length ≤ sizeLine then some (.lst (a ++ b)) else none := rfl
@[simp] theorem bAdd_tup {a b : List D} : bAdd [.tup a, .tup b] = if a.length + b.length ≤ sizeLine then some (.tup (a ++ b)) else none := rfl
@[simp] theorem bs_sub {a b : Int} : bsem sub .sub [.int a, .int b] = some (.int (a - b)) := rfl
@[simp] theorem bs_mul {ds : List D} : bsem sub .mul ds = bMul ds := rfl
@[simp] theorem bMul_ii {a b : Int} : bMul [.int a, .int b] = if (big a || big b) = true then some (.int (a * b)) else none := rfl
@[simp] theorem bs_fdiv {a b : Int} : bsem sub .fdiv [.int a, .int b] = if 0 < b ∧ b < 1073741824 then some (.int (a / b)) else none := rfl
@[simp] theorem bs_mod {a b : Int} : bsem sub .mod [.int a, .int b] = if 0 < b then some (.int (a % b)) else none := rfl
@[simp] theorem bs_neg {a : Int} : bsem sub .neg [.int a] = some (.int (-a)) := rfl
@[simp] theorem bs_eq {a b : D} : bsem sub .eq [a, b] = (eqD a b).map .bl := rfl
@[simp] theorem bs_ne {a b : D} : bsem sub .ne [a, b] = (eqD a b).map fun c => .bl (!c) := rfl
@[simp] theorem bs_lt {a b : Int} : bsem sub .lt [.int a, .int b] = some (.bl (decide (a < b))) := rfl
@[simp] theorem bs_le {a b : Int} : bsem sub .le [.int a, .int b] = some (.bl (decide (a ≤ b))) := rfl
@[simp] theorem bs_gt {a b : Int} : bsem sub .gt [.int a, .int b] = some (.bl (decide (b < a))) := rfl
@[simp] theorem bs_ge {a b : Int} : bsem sub .ge [.int a, .int b] = some (.bl (decide (b ≤ a))) := rfl
@[simp] theorem bs_isN {a : D} : bsem sub .isN [a] = some (.bl (isNone a)) := rfl
@[simp] theorem bs_notN {a : D} : bsem sub .notN [a] = some (.bl (!isNone a)) := rfl
@[simp] theorem bs_inn {a b : D} : bsem sub .inn [a, b] = (inD a b).map .bl := rfl
@[simp] theorem bs_nin {a b : D} : bsem sub .nin [a, b] = (inD a b).map fun b => .bl (!b) := rfl
@[simp] theorem bs_idx {a b : D} : bsem sub .idx [a, b] = idxD a b := rfl
@[simp] theorem idx_l {l : List D} {i : Int} : idxD (.lst l) (.int i) = L2.atI l i := rfl
@[simp] theorem idx_t {l : List D} {i : Int} : idxD (.tup l) (.int i) = L2.atI l i := rfl
@[simp] theorem bs_slc0 {d : D} {a b : Int} : bsem sub (.slc true true) [d, .int a, .int b] = slcD (some a) (some b) d := rfl
@[simp] theorem bs_slc1 {d : D} {a : Int} : bsem sub (.slc true false) [d, .int a] = slcD (some a) none d := rfl
@[simp] theorem bs_slc2 {d : D} {b : Int} : bsem sub (.slc false true) [d, .int b] = slcD none (some b) d := rfl
@[simp] theorem slc_l {l : List D} {lo hi : Option Int} : slcD lo hi (.lst l) = some (.lst (cut l lo hi)) := rfl
@[simp] theorem slc_t {l : List D} {lo hi : Option Int} : slcD lo hi (.tup l) = some (.tup (cut l lo hi)) := rfl
@[simp] theorem slc_s {l : List Int} {lo hi : Option Int} : slcD lo hi (.scr l) = some (.lst (cut (l.map .int) lo hi)) := rfl
@[simp] theorem bs_len {d : D} : bsem sub .len [d] = lenD d := rfl
@[simp] theorem bs_list {d : D} : bsem sub .list [d] = listD d := rfl
@[simp] theorem bs_tuple {d : D} : bsem sub .tuple [d] = tupleD d := rfl
@[simp] theorem bs_set {d : D} : bsem sub .set [d] = setB d := rfl
@[simp] theorem bs_sorted {d : D} : bsem sub .sorted [d] = sortB d := rfl
@[simp] theorem bs_rev {d : D} : bsem sub .rev [d] = revD d := rfl
@[simp] theorem bs_dict {d : D} : bsem sub .dict [d] = dictB d := rfl
@[simp] theorem bs_abs {d : D} : bsem sub .abs [d] = absD d := rfl
@[simp] theorem bs_int {d : D} : bsem sub .int [d] = intD d := rfl
@[simp] theorem bs_maxL {d : D} : bsem sub .maxL [d] = maxLD d := rfl
@[simp] theorem bs_minL {d : D} : bsem sub .minL [d] = minLD d := rfl
@[simp] theorem bs_sum {d : D} : bsem sub .sum [d] = sumD d := rfl
@[simp] theorem bs_any {d : D} : bsem sub .any [d] = anyD d := rfl
@[simp] theorem bs_all {d : D} : bsem sub .all [d] = allD d := rfl
@[simp] theorem bs_repr {d : D} : bsem sub .repr [d] = reprD d := rfl
@[simp] theorem len_lst {l : List D} : lenD (.lst l) = some (.int l.length) := rfl
@[simp] theorem len_tup {l : List D} : lenD (.tup l) = some (.int l.length) := rfl
@[simp] theorem len_dct {l : List (D × D)} : lenD (.dct l) = some (.int l.length) := rfl
@[simp] theorem len_set {l : List D} : lenD (.set l) = some (.int l.length) := rfl
@[simp] theorem len_scr {l : List Int} : lenD (.scr l) = some (.int l.length) := rfl
@[simp] theorem list_l {l : List D} : listD (.lst l) = some (.lst l) := rfl
@[simp] theorem list_t {l : List D} : listD (.tup l) = some (.lst l) := rfl
@[simp] theorem list_d {l : List (D × D)} : listD (.dct l) = some (.lst (l.map (·.1))) := rfl
@[simp] theorem tuple_l {l : List D} : tupleD (.lst l) = some (.tup l) := rfl
@[simp] theorem tuple_t {l : List D} : tupleD (.tup l) = some (.tup l) := rfl
@[simp] theorem rev_l {l : List D} : revD (.lst l) = some (.lst l.reverse) := rfl
@[simp] theorem rev_t {l : List D} : revD (.tup l) = some (.tup l.reverse) := rfl
@[simp] theorem int_i {a : Int} : intD (.int a) = some (.int a) := rfl
@[simp] theorem bs_max2 {a b : Int} : bsem sub .max2 [.int a, .int b] = some (.int (if b > a then b else a)) := rfl
@[simp] theorem bs_min2 {a b : Int} : bsem sub .min2 [.int a, .int b] = some (.int (if b < a then b else a)) := rfl
@[simp] theorem bs_isx {t : Ty} {d : D} : bsem sub (.isx t) [d] = isxD sub t d := rfl
@[simp] theorem bs_att {t : List (Nat × Nat)} {d : D} : bsem sub (.att t) [d] = attD t d := rfl
@[simp] theorem bs_isi {ts : List Ty} {o : Bool} {d : D} : bsem sub (.isi ts o) [d] = if ((tyD d).isSome && ts.all fun t => !t.own) = true then some (.bl (ts.any fun t => isTy sub t d)) else none := rfl
@[simp] theorem bs_listR {n : Int} : bsem sub .listR [.int n] = if 0 ≤ n ∧ n ≤ 10000 then some (.lst (rangeD 0 n)) else none := rfl
@[simp] theorem bs_tupR {n : Int} : bsem sub .tupR [.int n] = if 0 ≤ n ∧ n ≤ 10000 then some (.tup (rangeD 0 n)) else none := rfl
@[simp] theorem is_seql {l : List D} : isem .seq [.lst l] = some l := rfl
@[simp] theorem is_seqt {l : List D} : isem .seq [.tup l] = some l := rfl
@[simp] theorem is_r1 {n : Int} : isem .range1 [.int n] = if -1000000000 < n ∧ n < 1000000000 then some (rangeD 0 n) else none := rfl
@[simp] theorem is_r2 {a b : Int} : isem .range2 [.int a, .int b] = if (-1000000000 < a ∧ a < 1000000000) ∧ (-1000000000 < b ∧ b < 1000000000) then some (rangeD a b) else none := rfl
@[simp] theorem is_en {l : List D} : isem .enum [.lst l] = some (enumD l) := rfl
@[simp] theorem inD_l {x : D} {l : List D} : inD x (.lst l) = anyEq x l := rfl
@[simp] theorem inD_t {x : D} {l : List D} : inD x (.tup l) = anyEq x l := rfl
@[simp] theorem isL_l {l : List D} : isL (.lst l) = true := rfl
@[simp] theorem isI_i {i : Int} : isI (.int i) = true := rfl
@[simp] theorem ms_pop1 {l : List D} {i : Int} : msem .pop1 (.lst l) [.int i] = if l.length ≤ sizeLine then (match L2.ixN l.length i with | some k => (match l[k]? with | some x => some (.lst (l.eraseIdx k), x) | none => none) | none => none) else none := rfl
@[simp] theorem ms_app {l : List D} {x : D} : msem .append (.lst l) [x] = if l.length < sizeLine then some (.lst (l ++ [x]), .non) else none := rfl
@[simp] theorem ms_put {l : List D} {i : Int} {x : D} : msem .put (.lst l) [.int i, x] = match L2.ixN l.length i with | some k => some (.lst (l.set k x), .non) | none => none := rfl
end
end G

set_option maxHeartbeats 400000
/-! G.LawP: a law's begin and the law itself, by what they come to. -/
namespace G
open PySem
theorem BeginOk.of {tl : Nat} {Fb : Fn} {ns : List Int} (h : wpF (Fb [.scr ns]) (fun fr d => ∃ (cs : List Int) (i m : Int) (ts : List Int), fr = true ∧ d = .lst (.lst (cs.map .int) :: .int i :: .int m :: ts.map .int) ∧ 0 ≤ i ∧ 0 ≤ m ∧ m < 2147483648 ∧ cs ≠ [] ∧ cs.length ≤ 63 ∧ ts.length = tl) fun _ => False) : BeginOk tl Fb ns :=
  ⟨wpF_all h (fun fr d ⟨cs, i, m, ts, z1, z2, z⟩ => ⟨cs, i, m, ts, by rw [z1, z2], z⟩) fun x z => z.elim⟩
theorem SaysT.of {m : M Fl} {N : Nat} {ns : List Int} (h : wp m (some (0, .scr ns) :: some (0, .rnd) :: List.replicate N none) (fun f _ => ∃ n, f = .rt n (.bl true)) fun _ _ => False) : SaysT m N ns :=
  ⟨Tr.All.mono h.run fun r z => match r, z with
    | .ok f e, ⟨n, z⟩ => ⟨n, e, by rw [z]⟩
    | .err x e, z => z.elim⟩
end G
namespace G
open PySem
theorem wpF_draw {n : Int} {Φ : Bool → D → Prop} {Ψ : D → Prop} (h : 0 < n ∧ n < 1000000) (k : ∀ i : Nat, (i : Int) < n → Φ false (.int i)) : wpF (drawF [.rnd, .int n]) Φ Ψ := by
  refine ⟨?_⟩
  unfold drawF
  simp only
  rw [if_pos h]
  exact fun i hi => k i (by omega)
theorem atI_nat' {α : Type} {l : List α} {i : Nat} (h : i < l.length) : L2.atI l (i : Int) = some l[i] := by
  unfold L2.atI
  rw [ixN_k h]
  simp [h]
theorem eqD_int {a b : Int} : eqD (.int a) (.int b) = some (decide (a = b)) := by
  simp [eqD, D.py, pl, PyData.plain, PyData.depth, PyData.eqv]
  rw [Bool.eq_iff_iff, beq_iff_eq, decide_eq_true_eq]
theorem eqD_str {a b : Str} : eqD (.str a) (.str b) = some (decide (a = b)) := by
  simp [eqD, D.py, pl, PyData.plain, PyData.depth, PyData.eqv]
  rw [Bool.eq_iff_iff, beq_iff_eq, decide_eq_true_eq]
end G

set_option maxHeartbeats 400000
/-! G.PlainL: values that are told, compared; lists of ints; sorted, sets. -/
namespace G
open PySem
/-! ### values: told by repr, compared -/
mutual
/-- no dict in it, small numbers, texts of signs -/
def D.vok : D → Bool
  | .non | .bl _ => true
  | .int i => decide (i.natAbs < 1000000000000)
  | .str x => PyData.strOk x
  | .tup l => D.voks l
  | .lst l => D.voks l
  | _ => false
def D.voks : List D → Bool
  | [] => true
  | d :: r => D.vok d && D.voks r
end
mutual
def D.sz : D → Nat
  | .int _ => 41
  | .str x => x.length
  | .tup l => D.szs l
  | .lst l => D.szs l
  | _ => 0
def D.szs : List D → Nat
  | [] => 0
  | d :: r => D.sz d + 1 + D.szs r
end
mutual
def D.dp : D → Nat
  | .tup l => D.dps l + 1
  | .lst l => D.dps l + 1
  | _ => 0
def D.dps : List D → Nat
  | [] => 0
  | d :: r => max (D.dp d) (D.dps r)
end
theorem log2_40 {n : Nat} (h : n < 1000000000000) : n.log2 + 1 ≤ 41 := by
  by_cases z : n = 0
  · subst z; decide
  · have := (Nat.log2_lt z).mpr (show n < 2 ^ 40 by have : (2 : Nat) ^ 40 = 1099511627776 := by decide
                                                    omega)
    omega
theorem int_short {i : Int} (h : i.natAbs < 1000000000000) : (PyData.shown (.int i)).length ≤ 13 := by
  show (Str.ofString (toString i)).length ≤ 13
  have h10 : (10 : Int) ^ 12 = 1000000000000 := by decide
  by_cases z : i < 0
  · rw [PyProof.Rows.len_text_neg z]
    have := PyProof.Rows.toString_length_le (v := 0 - i) (k := 12) (by omega) (by decide) (by rw [h10]; omega)
    omega
  · have := PyProof.Rows.toString_length_le (v := i) (k := 12) (by omega) (by decide) (by rw [h10]; omega)
    omega
/-- what is known of a datum's value -/
structure VokP (d : D) (p : PyData) : Prop where
  py : d.py = some p
  lay : PyData.canLay0 p = true
  short : p.intsShort 13 = true
  show_ : p.showable = true
  w : PyData.weight p ≤ d.sz
  dp : PyData.depth p = d.dp
structure VoksP (l : List D) (ps : List PyData) : Prop where
  py : D.pys l = some ps
  lay : PyData.canLayAll0 ps = true
  short : PyData.intsShortAll 13 ps = true
  show_ : PyData.showableAll ps = true
  w : PyData.weightAll ps ≤ D.szs l
  dp : PyData.depthAll ps = D.dps l
mutual
theorem D.vokP : ∀ d : D, d.vok = true → ∃ p, VokP d p
  | .non, _ => ⟨.none, rfl, rfl, rfl, rfl, Nat.le_refl _, rfl⟩
  | .bl b, _ => ⟨.bool b, rfl, rfl, rfl, rfl, Nat.le_refl _, rfl⟩
  | .int i, h => by
    simp only [D.vok, decide_eq_true_eq] at h
    refine ⟨.int i, rfl, rfl, ?_, ?_, ?_, rfl⟩
    · simp only [PyData.intsShort, decide_eq_true_eq]
      exact int_short h
    · simp only [PyData.showable, decide_eq_true_eq]
      have := log2_40 h
      omega
    · simp only [PyData.weight, D.sz]
      split
      · omega
      · exact log2_40 h
  | .str x, h => ⟨.str x, rfl, by simpa [PyData.canLay0, D.vok] using h, rfl, rfl, Nat.le_refl _, rfl⟩
  | .tup l, h => by
    obtain ⟨ps, h1⟩ := D.voksP l (by simpa [D.vok] using h)
    refine ⟨.tuple ps, ?_, ?_, ?_, ?_, ?_, ?_⟩
    · simp only [D.py, h1.py]; rfl
    · simpa only [PyData.canLay0] using h1.lay
    · simpa only [PyData.intsShort] using h1.short
    · simpa only [PyData.showable] using h1.show_
    · simpa only [PyData.weight, D.sz] using h1.w
    · simp only [PyData.depth, D.dp, h1.dp]
  | .lst l, h => by
    obtain ⟨ps, h1⟩ := D.voksP l (by simpa [D.vok] using h)
    refine ⟨.list ps, ?_, ?_, ?_, ?_, ?_, ?_⟩
    · simp only [D.py, h1.py]; rfl
    · simpa only [PyData.canLay0] using h1.lay
    · simpa only [PyData.intsShort] using h1.short
    · simpa only [PyData.showable] using h1.show_
    · simpa only [PyData.weight, D.sz] using h1.w
    · simp only [PyData.depth, D.dp, h1.dp]
theorem D.voksP : ∀ l : List D, D.voks l = true → ∃ ps, VoksP l ps
  | [], _ => ⟨[], rfl, rfl, rfl, rfl, Nat.le_refl _, rfl⟩
  | d :: r, h => by
    simp only [D.voks, Bool.and_eq_true] at h
    obtain ⟨p, h1⟩ := D.vokP d h.1
    obtain ⟨ps, h2⟩ := D.voksP r h.2
    refine ⟨p :: ps, ?_, ?_, ?_, ?_, ?_, ?_⟩
    · simp only [D.pys, h1.py, h2.py]
    · simp only [PyData.canLayAll0, h1.lay, h2.lay, Bool.and_self]
    · simp only [PyData.intsShortAll, h1.short, h2.short, Bool.and_self]
    · simp only [PyData.showableAll, h1.show_, h2.show_, Bool.and_self]
    · simp only [PyData.weightAll, D.szs]
      have := h1.w
      have := h2.w
      omega
    · simp only [PyData.depthAll, D.dps, h1.dp, h2.dp]
end
/-- repr tells it -/
theorem reprD_vok {d : D} (h : d.vok = true) (hd : d.dp ≤ 60) (hs : d.sz ≤ 1000000) : ∃ s : Str, reprD d = some (.str s) := by
  obtain ⟨p, v⟩ := D.vokP d h
  have hl : PyData.layable0 p = true := by
    unfold PyData.layable0
    have := v.w
    have h2 : (2 : Nat) ^ 20 = 1048576 := by decide
    have := v.dp
    simp only [v.lay, Bool.true_and, Bool.and_eq_true, decide_eq_true_eq]
    omega
  have hn := PyData.hasDict_of_canLay p v.lay
  have hz := PyProof.Rows.shown_le13 hl v.short
  refine ⟨p.shown, ?_⟩
  unfold reprD
  rw [v.py]
  have h2 : sizeLine = 16777216 := by decide
  have := v.dp
  simp only [v.show_, hn]
  rw [if_pos]
  exact ⟨trivial, .inl trivial, by omega, by omega⟩
theorem pl_vok {d : D} (h : d.vok = true) (hd : d.dp ≤ 60) : ∃ p, d.py = some p ∧ pl p = true ∧ p.canLay0 = true := by
  obtain ⟨p, v⟩ := D.vokP d h
  refine ⟨p, v.py, ?_, v.lay⟩
  unfold pl
  have := v.dp
  rw [PyData.plain_of_canLay0 p v.lay]
  simp only [Bool.true_and, decide_eq_true_eq]
  omega
theorem eqD_self {d : D} (h : d.vok = true) (hd : d.dp ≤ 60) : eqD d d = some true := by
  obtain ⟨p, h1, h2, h3⟩ := pl_vok h hd
  unfold eqD
  rw [h1]
  simp only [h2, and_self, if_true]
  rw [SeqAt.eqv_refl p h3]
/-! ### lists of ints -/
theorem voks_ints : ∀ {l : List Int}, (∀ i ∈ l, i.natAbs < 1000000000000) → D.voks (l.map .int) = true
  | [], _ => rfl
  | i :: l, h => by
    simp only [List.map_cons, D.voks, D.vok, Bool.and_eq_true, decide_eq_true_eq]
    exact ⟨h i List.mem_cons_self, voks_ints fun j hj => h j (List.mem_cons_of_mem _ hj)⟩
theorem szs_ints {l : List Int} : D.szs (l.map .int) = 42 * l.length := by
  induction l with
  | nil => rfl
  | cons i l ih =>
    simp only [List.map_cons, D.szs, D.sz, ih, List.length_cons]
    omega
theorem dps_ints {l : List Int} : D.dps (l.map .int) = 0 := by
  induction l with
  | nil => rfl
  | cons i l ih => simp only [List.map_cons, D.dps, D.dp, ih]; rfl
theorem pys_ints {l : List Int} : D.pys (l.map .int) = some (l.map .int) := by
  induction l with
  | nil => rfl
  | cons i l ih => simp only [List.map_cons, D.pys, D.py, ih]
theorem plains_ints {l : List Int} : PyData.plainAll (l.map .int) = true := by
  induction l with
  | nil => rfl
  | cons i l ih => simp only [List.map_cons, PyData.plainAll, PyData.plain, ih, Bool.and_self]
theorem depths_ints {l : List Int} : PyData.depthAll (l.map .int) = 0 := by
  induction l with
  | nil => rfl
  | cons i l ih => simp only [List.map_cons, PyData.depthAll, PyData.depth, ih]; rfl
theorem eqvs_ints : ∀ {a b : List Int}, PyData.eqvAll (a.map .int) (b.map .int) = decide (a = b)
  | [], [] => rfl
  | [], _ :: _ => rfl
  | _ :: _, [] => rfl
  | i :: a, j :: b => by
    simp only [List.map_cons, PyData.eqvAll, PyData.eqv, eqvs_ints (a := a) (b := b)]
    rw [Bool.eq_iff_iff]
    simp
theorem eqD_ints {a b : List Int} : eqD (.lst (a.map .int)) (.lst (b.map .int)) = some (decide (a = b)) := by
  unfold eqD
  simp only [D.py, pys_ints, Option.map_some, pl, PyData.plain, plains_ints, PyData.depth, depths_ints]
  simp [PyData.eqv, eqvs_ints]
theorem iL_ints {l : List Int} : iL (l.map .int) = some l := by
  induction l with
  | nil => rfl
  | cons i l ih => simp only [List.map_cons, iL, ih]; rfl
theorem anyEq_ints {i : Int} {l : List Int} : anyEq (.int i) (l.map .int) = some (decide (i ∈ l)) := by
  unfold anyEq
  simp only [D.py, pys_ints, pl, PyData.plain, plains_ints, PyData.depth, depths_ints]
  simp only [Bool.and_self, Nat.zero_le, decide_true, Nat.zero_add, show (1 : Nat) ≤ 64 by decide, and_self, if_true, Option.some.injEq]
  rw [Bool.eq_iff_iff, List.any_eq_true, decide_eq_true_eq]
  constructor
  · rintro ⟨x, hx, h⟩
    obtain ⟨j, hj, rfl⟩ := List.mem_map.mp hx
    simp only [PyData.eqv, beq_iff_eq] at h
    rw [← h]; exact hj
  · intro h
    exact ⟨.int i, List.mem_map.mpr ⟨i, h, rfl⟩, by simp [PyData.eqv]⟩
/-- cells -/
abbrev cs (l : List Nat) : List D := l.map fun c : Nat => D.int (c : Int)
theorem cs_ints {l : List Nat} : cs l = (l.map fun c : Nat => (c : Int)).map .int := by simp [cs, List.map_map, Function.comp_def]
theorem cast_inj {a b : List Nat} : (a.map fun c : Nat => (c : Int)) = (b.map fun c : Nat => (c : Int)) ↔ a = b := by
  constructor
  · intro h
    have := congrArg (List.map Int.toNat) h
    simpa [List.map_map, Function.comp_def] using this
  · intro h; rw [h]
theorem eqD_cs {a b : List Nat} : eqD (.lst (cs a)) (.lst (cs b)) = some (decide (a = b)) := by
  rw [cs_ints, cs_ints, eqD_ints]
  simp only [cast_inj]
theorem anyEq_cs {i : Nat} {l : List Nat} : anyEq (.int i) (cs l) = some (decide (i ∈ l)) := by
  rw [cs_ints, anyEq_ints]
  congr 1
  rw [Bool.eq_iff_iff, decide_eq_true_eq, decide_eq_true_eq, List.mem_map]
  constructor
  · rintro ⟨j, hj, e⟩
    have : j = i := by omega
    rw [← this]; exact hj
  · intro h; exact ⟨i, h, rfl⟩
theorem iL_cs {l : List Nat} : iL (cs l) = some (l.map fun c : Nat => (c : Int)) := by rw [cs_ints, iL_ints]
theorem range_cs {n : Nat} : rangeD 0 (n : Int) = cs (List.range n) := by
  unfold rangeD cs
  have : ((n : Int) - 0).toNat = n := by omega
  rw [this]
  refine List.map_congr_left fun i _ => ?_
  simp
/-! ### sorted -/
abbrev ltI : Int → Int → Bool := fun x y => decide (x < y)
theorem srt_of {a b : List Int} (p : a.Perm b) (h : b.Pairwise (· ≤ ·)) : srt ltI a = b := (srt_eq p.symm h).symm
theorem ddI_self {α : Type} [DecidableEq α] : ∀ {l : List α}, l.Nodup → ddI l = l
  | [], _ => rfl
  | y :: r, h => by
    obtain ⟨h1, h2⟩ := List.nodup_cons.mp h
    unfold ddI
    rw [ddI_self h2, List.filter_eq_self.mpr fun x hx => by
      simp only [decide_eq_true_eq]
      exact fun z => h1 (by rw [← z]; exact hx)]
theorem ddI_len {α : Type} [DecidableEq α] : ∀ {l : List α}, (ddI l).length ≤ l.length
  | [] => Nat.le_refl _
  | y :: r => by
    unfold ddI
    have := List.length_filter_le (fun x => decide (x ≠ y)) (ddI r)
    have := ddI_len (l := r)
    simp only [List.length_cons]
    omega
theorem ddI_len_eq {α : Type} [DecidableEq α] : ∀ {l : List α}, (ddI l).length = l.length ↔ l.Nodup
  | [] => by simp [ddI]
  | y :: r => by
    constructor
    · intro h
      unfold ddI at h
      simp only [List.length_cons, Nat.add_right_cancel_iff] at h
      have h1 := List.length_filter_le (fun x => decide (x ≠ y)) (ddI r)
      have h2 := ddI_len (l := r)
      have h3 : (ddI r).length = r.length := by omega
      have h4 : (ddI r).filter (fun x => decide (x ≠ y)) = ddI r := by
        apply List.filter_eq_self.mpr
        have := List.length_filter_eq_length_iff.mp (by omega : ((ddI r).filter (fun x => decide (x ≠ y))).length = (ddI r).length)
        exact this
      refine List.nodup_cons.mpr ⟨fun hy => ?_, ddI_len_eq.mp h3⟩
      have hy' := ddI_mem.mpr hy
      rw [← h4] at hy'
      simpa using (List.mem_filter.mp hy').2
    · intro h; rw [ddI_self h]
theorem srt_dd {a : List Int} : srt ltI (ddI a) = a ↔ a.Pairwise (· < ·) := by
  constructor
  · intro h
    have nd : (srt ltI (ddI a)).Nodup := (srt_perm _ _).nodup_iff.mpr (ddI_nodup _)
    have s : (srt ltI (ddI a)).Pairwise (· ≤ ·) := srt_le _
    rw [h] at nd s
    exact (List.Pairwise.and s nd).imp fun ⟨h1, h2⟩ => by omega
  · intro h
    have nd : a.Nodup := h.imp fun h => by omega
    rw [ddI_self nd]
    exact srt_of (.refl _) (h.imp fun h => by omega)
theorem setD_ints {a : List Int} (h : a.length < 1000) : setD (a.map .int) = some ((ddI a).map .int) := by
  unfold setD
  rw [iL_ints]
  simp [h]
theorem sortD_ints {a : List Int} : sortD (a.map .int) = some ((srt ltI a).map .int) := by
  unfold sortD
  rw [iL_ints]
  rfl
end G

set_option maxHeartbeats 400000
/-! G.PlainF: functions as values, plainly. -/
namespace G
open PySem
section
variable {α β : Type} {e : Env} {Ψ : D → Env → Prop} {sub : Nat → List Nat} {F : Nat → Fn}
theorem wp_foE {t : Tr FO} {Φ : Nat × D → Env → Prop} : wp (mb (ltr t) foE) e Φ Ψ ↔ wpF t (fun fr d => Φ (if fr = true then top d else 0, d) e) fun x => Ψ x e := by
  rw [wp_mb, wp_ltr]
  constructor
  · intro h
    exact ⟨h.mono fun r z => match r, z with
      | .ok fr d, z => wp_pu.mp z
      | .err x, z => wp_rz.mp z
      | .no, z => (wp_no.mp z).elim⟩
  · intro h
    exact h.run.mono fun r z => match r, z with
      | .ok fr d, z => wp_pu.mpr z
      | .err x, z => wp_rz.mpr z
@[simp ↓] theorem val_lam {k : Nat} {Φ : Nat × D → Env → Prop} : wp ((ev sub F (.lam k)).val) e Φ Ψ ↔ wp (pu (0, .clo k [])) e Φ Ψ := Iff.rfl
@[simp ↓] theorem plOf_lam {k : Nat} {m : M (Nat × D)} {Φ : Pl → Env → Prop} : wp (plOf (.lam k) m) e Φ Ψ ↔ wp (mb m fun r => pu (.t r.1 r.2)) e Φ Ψ := Iff.rfl
@[simp ↓] theorem val_cw {i j : Nat} {Φ : Nat × D → Env → Prop} : wp ((ev sub F (.cw i j)).val) e Φ Ψ ↔ look e[i]? fun x => isClo x.2 = true ∧ wpF (F j [x.2]) (fun fr d => Φ (if fr = true then top d else 0, d) e) fun x => Ψ x e := by
  show wp (mb (getE i) fun x => tst (isClo x.2) (mb (ltr (F j [x.2])) foE)) e Φ Ψ ↔ _
  rw [wp_mb, wps_getE]
  unfold look
  split
  · rename_i r _
    show wp (tst (isClo r.2) (mb (ltr (F j [r.2])) foE)) e Φ Ψ ↔ _
    rw [wp_tst, wp_foE]
  · exact Iff.rfl
@[simp ↓] theorem plOf_cw {i j : Nat} {m : M (Nat × D)} {Φ : Pl → Env → Prop} : wp (plOf (.cw i j) m) e Φ Ψ ↔ wp (mb m fun r => pu (.t r.1 r.2)) e Φ Ψ := Iff.rfl
@[simp ↓] theorem val_fw {j : Nat} {y : E} {caps : List (List Nat)} {Φ : Nat × D → Env → Prop} : wp ((ev sub F (.fw j y caps)).val) e Φ Ψ ↔ wp (mb (plOf y (ev sub F y).val) fun p => mb (vlP p) (fwE (F j) caps)) e Φ Ψ := Iff.rfl
@[simp ↓] theorem plOf_fw {j : Nat} {y : E} {caps : List (List Nat)} {m : M (Nat × D)} {Φ : Pl → Env → Prop} : wp (plOf (.fw j y caps) m) e Φ Ψ ↔ wp (mb m fun r => pu (.t r.1 r.2)) e Φ Ψ := Iff.rfl
@[simp ↓] theorem frzs_nil {Φ : List D → Env → Prop} : wp (frzs []) e Φ Ψ ↔ wp (pu []) e Φ Ψ := Iff.rfl
@[simp ↓] theorem frzs_cons {i : Nat} {r : List Nat} {Φ : List D → Env → Prop} : wp (frzs (i :: r)) e Φ Ψ ↔ wp (mb (frzE i) fun x => mb (frzs r) fun l => pu (x.2 :: l)) e Φ Ψ := Iff.rfl
@[simp ↓] theorem wp_fwE {Fj : Fn} {caps : List (List Nat)} {n k : Nat} {c : List D} {Φ : Nat × D → Env → Prop} : wp (fwE Fj caps (n, .clo k c)) e Φ Ψ ↔ wp (frzs (caps.getD k [])) e (fun l e' => D.noClos l = true ∧ wpF (Fj [.clo k l]) (fun fr d => d.noClo = true ∧ Φ (if fr = true then top d else 0, d) e') fun x => x.noClo = true ∧ Ψ x e') Ψ := by
  show wp (mb (frzs (caps.getD k [])) fun l => tst (D.noClos l) (mb (ltr (Fj [.clo k l])) fun r => tst r.noClo (foE r))) e Φ Ψ ↔ _
  rw [wp_mb]
  constructor <;> intro h <;> refine wp_mono h (fun l e' z => ?_) fun _ _ z => z
  · obtain ⟨h1, z⟩ := wp_tst.mp z
    rw [wp_mb, wp_ltr] at z
    exact ⟨h1, ⟨z.mono fun r z => match r, z with
      | .ok fr d, z => let ⟨a, b⟩ := wp_tst.mp z; ⟨a, wp_pu.mp b⟩
      | .err x, z => let ⟨a, b⟩ := wp_tst.mp z; ⟨a, wp_rz.mp b⟩
      | .no, z => let ⟨a, b⟩ := wp_tst.mp z; (wp_no.mp b).elim⟩⟩
  · refine wp_tst.mpr ⟨z.1, ?_⟩
    rw [wp_mb, wp_ltr]
    exact z.2.run.mono fun r z => match r, z with
      | .ok fr d, z => wp_tst.mpr ⟨z.1, wp_pu.mpr z.2⟩
      | .err x, z => wp_tst.mpr ⟨z.1, wp_rz.mpr z.2⟩
theorem wpF_fnC {G : Fn} {ds : List D} {Φ : Bool → D → Prop} {Ψ : D → Prop} (hc : D.noClos ds = true) (h : wpF (G ds) (fun fr d => d.noClo = true ∧ Φ fr d) fun x => x.noClo = true ∧ Ψ x) : wpF (fnC G ds) Φ Ψ := by
  refine ⟨?_⟩
  unfold fnC
  rw [if_pos hc, Tr.all_bind]
  exact h.run.mono fun r z => match r, z with
    | .ok fr d, z => by
      have : (FO.ok fr d).noClo = true := z.1
      rw [this]
      exact z.2
    | .err x, z => by
      have : (FO.err x).noClo = true := z.1
      rw [this]
      exact z.2
theorem wpF_lamOf {n : Nat} {caps : List Nat} {b : E} {l : List D} {Φ : Bool → D → Prop} {Ψ : D → Prop} (h : wp ((ev sub F b).val) (capE n caps l) (fun r _ => Φ (r.1 == 1 && top r.2 == 1) r.2) fun x _ => Ψ x) : wpF (lamOf sub F n caps b l []) Φ Ψ := by
  refine ⟨?_⟩
  unfold lamOf
  rw [Tr.all_bind]
  exact h.run.mono fun r z => match r, z with
    | .ok r e, z => z
    | .err x e, z => z
/-- a spec, used -/
theorem wpF_is {t : Tr FO} {d : D} {Φ : Bool → D → Prop} {Ψ : D → Prop} (h : wpF t (fun _ r => r = d) fun _ => False) (k : ∀ fr, Φ fr d) : wpF t Φ Ψ := wpF_mono h (fun fr r e => by rw [e]; exact k fr) fun _ z => z.elim
theorem wpF_er {t : Tr FO} {x : D} {Φ : Bool → D → Prop} {Ψ : D → Prop} (h : wpF t (fun _ _ => False) fun y => y = x) (k : Ψ x) : wpF t Φ Ψ := wpF_mono h (fun fr r e => e.elim) fun y e => by rw [e]; exact k
/-- any number may be drawn -/
theorem wpF_dr {n : Int} {Φ : Bool → D → Prop} {Ψ : D → Prop} (h : 0 < n ∧ n < 1000000) (k : ∀ i : Nat, (i : Int) < n → Φ false (.int i)) : wpF (drawF [.rnd, .int n]) Φ Ψ := wpF_draw h k
end
@[simp] theorem ok1_clo {k : Nat} {l : List D} : ok1 1 (.clo k l) = true := rfl
@[simp] theorem top_clo {k : Nat} {l : List D} : top (.clo k l) = 0 := rfl
@[simp] theorem isClo_c {k : Nat} {l : List D} : isClo (.clo k l) = true := rfl
@[simp] theorem isNone_non : isNone .non = true := rfl
@[simp] theorem isNone_int {i : Int} : isNone (.int i) = false := rfl
@[simp] theorem isNone_exn {c : Nat} {l : List D} : isNone (.exn c l) = false := rfl
@[simp] theorem isNone_tup {l : List D} : isNone (.tup l) = false := rfl
@[simp] theorem isNone_lst {l : List D} : isNone (.lst l) = false := rfl
@[simp] theorem isNone_str {l : Str} : isNone (.str l) = false := rfl
@[simp] theorem isNone_bl {l : Bool} : isNone (.bl l) = false := rfl
@[simp] theorem is_ent {l : List D} : isem .enum [.tup l] = some (enumD l) := rfl
@[simp] theorem setB_l {l : List D} : setB (.lst l) = (setD l).map .set := rfl
@[simp] theorem setB_t {l : List D} : setB (.tup l) = (setD l).map .set := rfl
@[simp] theorem sortB_l {l : List D} : sortB (.lst l) = (sortD l).map .lst := rfl
@[simp] theorem sortB_t {l : List D} : sortB (.tup l) = (sortD l).map .lst := rfl
@[simp] theorem sortB_s {l : List D} : sortB (.set l) = if l.length < 64 then (sortD l).map .lst else none := rfl
end G
namespace G
@[simp] theorem ok1_fr {fr : Bool} {d : D} : ok1 (if fr = true then top d else 0) d = true := by
  cases fr
  · exact ok1_0
  · cases d <;> rfl
@[simp] theorem ok1_top {d : D} : ok1 (top d) d = true := by cases d <;> rfl
theorem setD_cs {a : List Nat} (h : a.length < 1000) : setD (cs a) = some (cs (ddI a)) := by
  rw [cs_ints, setD_ints (by simpa using h), cs_ints]
  congr 2
  have : ∀ l : List Nat, ddI (l.map fun c : Nat => (c : Int)) = (ddI l).map fun c : Nat => (c : Int) := by
    intro l
    induction l with
    | nil => rfl
    | cons x r ih =>
      show (x : Int) :: (ddI (r.map fun c : Nat => (c : Int))).filter _ = (x :: (ddI r).filter _).map _
      rw [ih, List.filter_map, List.map_cons]
      congr 2
      refine List.filter_congr fun y _ => ?_
      simp only [Function.comp]
      rw [Bool.eq_iff_iff]
      simp
      omega
  rw [this]
/-- ascending numbers -/
abbrev Asc (l : List Nat) : Prop := l.Pairwise (· < ·)
/-- a list of numbers, sorted -/
def sortN (a : List Nat) : List Nat := srt (fun x y : Nat => decide (x < y)) a
theorem insN {x : Nat} : ∀ {l : List Nat}, insL ltI (x : Int) (l.map fun c : Nat => (c : Int)) = (insL (fun x y : Nat => decide (x < y)) x l).map fun c : Nat => (c : Int)
  | [] => rfl
  | y :: r => by
    simp only [List.map_cons, insL]
    by_cases h : x < y
    · have h' : (x : Int) < (y : Int) := by omega
      simp [ltI, h, h']
    · have h' : ¬ (x : Int) < (y : Int) := by omega
      simp only [ltI, h', h, decide_false, Bool.false_eq_true, if_false, List.map_cons]
      rw [← insN (l := r)]
theorem srtN {a : List Nat} : srt ltI (a.map fun c : Nat => (c : Int)) = (sortN a).map fun c : Nat => (c : Int) := by
  induction a with
  | nil => rfl
  | cons x r ih =>
    simp only [List.map_cons]
    unfold srt
    rw [ih, insN]
    rfl
theorem sortD_cs {a : List Nat} : sortD (cs a) = some (cs (sortN a)) := by
  rw [cs_ints, sortD_ints, srtN, cs_ints]
theorem sortN_perm {a : List Nat} : (sortN a).Perm a := srt_perm _ a
theorem sortN_of {a b : List Nat} (p : a.Perm b) (h : b.Pairwise (· ≤ ·)) : sortN a = b := by
  have h1 : srt ltI (a.map fun c : Nat => (c : Int)) = b.map fun c : Nat => (c : Int) := srt_of (p.map _) (by
    rw [List.pairwise_map]
    exact h.imp fun h => by omega)
  rw [srtN] at h1
  exact cast_inj.mp h1
/-- different numbers below n, sorted -/
theorem sortN_range {a : List Nat} {n : Nat} (nd : a.Nodup) (lt : ∀ c ∈ a, c < n) : sortN a = (List.range n).filter (fun c => decide (c ∈ a)) := by
  refine sortN_of ?_ ?_
  · refine (List.perm_ext_iff_of_nodup nd (List.nodup_range.sublist List.filter_sublist)).mpr fun c => ?_
    rw [List.mem_filter, List.mem_range, decide_eq_true_eq]
    exact ⟨fun h => ⟨lt c h, h⟩, fun h => h.2⟩
  · exact ((List.pairwise_lt_range (n := n)).sublist List.filter_sublist).imp fun h => by omega
end G

set_option maxHeartbeats 400000
/-! G.PlainG: comprehensions and loops over mapped lists. -/
namespace G
open PySem
section
variable {α : Type} {e : Env} {Ψ : D → Env → Prop} {sub : Nat → List Nat} {F : Nat → Fn}
theorem wp_lcG {tg own : List Nat} {test : M Bool} {elt : M (Nat × D)} {l : List α} {g : α → D} {Φ : List D → Env → Prop} (keep : α → Bool) (f : α → D) (hi : idle own e = true) (hl : l.length ≤ sizeLine)
    (hs : ∀ x ∈ l, wp (bindT tg (g x)) (wipeE own e) (fun _ e2 => wp test e2 (fun t e3 => t = keep x ∧ if t = true then wp elt e3 (fun y e4 => y.2 = f x ∧ wipeE own e4 = wipeE own e) (fun _ _ => False) else wipeE own e3 = wipeE own e) fun _ _ => False) fun _ _ => False)
    (h : Φ ((l.filter keep).map f) e) : wp (blkE own (compE tg own test elt (l.map g) [])) e Φ Ψ := by
  refine wp_blk hi (wp_compE (fun r acc e' => ∃ r0, r = r0.map g ∧ wipeE own e' = wipeE own e ∧ (∀ x ∈ r0, x ∈ l) ∧ acc ++ (r0.filter keep).map f = (l.filter keep).map f) (l.map g) [] e ⟨l, rfl, rfl, fun _ h => h, rfl⟩ (by simpa using hl) (fun x r acc e' ⟨r0, h0, h1, h2, h3⟩ => ?_) fun acc e' ⟨r0, h0, h1, h2, h3⟩ => ⟨wipe_same.mpr h1, ?_⟩)
  · match r0, h0, h2, h3 with
    | x0 :: r0, h0, h2, h3 =>
      simp only [List.map_cons, List.cons.injEq] at h0
      obtain ⟨rfl, rfl⟩ := h0
      rw [h1]
      refine wp_mono (hs x0 (h2 x0 List.mem_cons_self)) (fun _ e2 z => wp_mono z (fun t e3 ⟨z1, z⟩ => ?_) fun _ _ z => z.elim) fun _ _ z => z.elim
      have h2' : ∀ y ∈ r0, y ∈ l := fun y hy => h2 y (List.mem_cons_of_mem _ hy)
      cases t with
      | true =>
        refine wp_mono z (fun y e4 ⟨z2, z3⟩ => ⟨r0, rfl, z3, h2', ?_⟩) fun _ _ z => z.elim
        rw [List.filter_cons, if_pos z1.symm, List.map_cons] at h3
        rw [z2, List.append_assoc]
        exact h3
      | false =>
        refine ⟨r0, rfl, z, h2', ?_⟩
        rw [List.filter_cons, if_neg (by rw [← z1]; exact Bool.false_ne_true)] at h3
        exact h3
  · have hr : r0 = [] := by cases r0 with | nil => rfl | cons a b => simp at h0
    subst hr
    have : acc = (l.filter keep).map f := by simpa using h3
    rw [this]
    exact h
theorem wp_lcGA {tg own : List Nat} {elt : M (Nat × D)} {l : List α} {g : α → D} {Φ : List D → Env → Prop} (f : α → D) (hi : idle own e = true) (hl : l.length ≤ sizeLine)
    (hs : ∀ x ∈ l, wp (bindT tg (g x)) (wipeE own e) (fun _ e2 => wp elt e2 (fun y e4 => y.2 = f x ∧ wipeE own e4 = wipeE own e) fun _ _ => False) fun _ _ => False)
    (h : Φ (l.map f) e) : wp (blkE own (compE tg own (evTs sub F .nil) elt (l.map g) [])) e Φ Ψ := by
  refine wp_lcG (fun _ => true) f hi hl (fun x hx => wp_mono (hs x hx) (fun _ e2 z => ?_) fun _ _ z => z) (by rw [List.filter_eq_self.mpr fun _ _ => rfl]; exact h)
  rw [evTs_nil, wp_pu]
  exact ⟨rfl, z⟩
/-- a loop over a mapped list -/
theorem wp_forG {bind : D → M Unit} {body : M Fl} {g : α → D} {Φ : Fl → Env → Prop} (I : List α → Env → Prop) : ∀ (l : List α) (e : Env), I l e →
    (∀ x r e, I (x :: r) e → wp (bind (g x)) e (fun _ e1 => wp body e1 (fun f e2 => match f with
      | .nx => I r e2
      | .ct => I r e2
      | .bk => Φ .nx e2
      | .rt n d => Φ (.rt n d) e2) Ψ) Ψ) → (∀ e, I [] e → Φ .nx e) → wp (forL bind body (l.map g)) e Φ Ψ := fun l e h hs hd =>
  wp_forL (fun r e => ∃ r0, r = r0.map g ∧ I r0 e) (l.map g) e ⟨l, rfl, h⟩ (fun x r e ⟨r0, h0, h1⟩ => by
    match r0, h0, h1 with
    | x0 :: r0, h0, h1 =>
      simp only [List.map_cons, List.cons.injEq] at h0
      obtain ⟨rfl, rfl⟩ := h0
      refine wp_mono (hs x0 r0 e h1) (fun _ e1 z => wp_mono z (fun f e2 z => ?_) fun _ _ z => z) fun _ _ z => z
      match f, z with
      | .nx, z => exact ⟨r0, rfl, z⟩
      | .ct, z => exact ⟨r0, rfl, z⟩
      | .bk, z => exact z
      | .rt n d, z => exact z) fun e ⟨r0, h0, h1⟩ => hd e (by
    cases r0 with
    | nil => exact h1
    | cons a b => simp at h0)
end
theorem atI_nat {α : Type} {l : List α} {i : Nat} {a : α} (h : l[i]? = some a) : L2.atI l (i : Int) = some a := by
  obtain ⟨h1, h2⟩ := List.getElem?_eq_some_iff.mp h
  rw [atI_nat' h1, h2]
theorem cut_take {α : Type} {l : List α} {n : Nat} : cut l none (some (n : Int)) = l.take n := by
  unfold cut
  have h1 : HT.sIx l.length 0 none = 0 := HT.sIx_none _ _
  have h2 : HT.sIx l.length l.length (some (n : Int)) = min n l.length := HT.sIx_nat _ _ _
  rw [h1, h2, List.drop_zero, Nat.sub_zero]
  rcases Nat.le_total n l.length with h | h
  · rw [Nat.min_eq_left h]
  · rw [Nat.min_eq_right h, List.take_of_length_le h, List.take_of_length_le (Nat.le_refl _)]
end G
namespace G
open PySem
section
variable {α : Type} {e : Env} {Ψ : D → Env → Prop} {sub : Nat → List Nat} {F : Nat → Fn}
theorem back_wipe {own : List Nat} {e e' : Env} : backE own e e' = backE own e (wipeE own e') := by
  refine List.ext_getElem? fun i => ?_
  by_cases hi : i ∈ own
  · have key : ∀ (l : List Nat) (a b : Env), a.length = b.length → (i ∈ l ∨ a[i]? = b[i]?) → (backE l e a)[i]? = (backE l e b)[i]? := by
      intro l
      induction l with
      | nil => intro a b _ h; exact h.elim (fun z => nomatch z) id
      | cons v l ih =>
        intro a b hl h
        show (backE l e (a.set v _))[i]? = (backE l e (b.set v _))[i]?
        refine ih _ _ (by simpa using hl) ?_
        by_cases hv : v = i
        · subst hv
          right
          by_cases hlt : v < a.length
          · rw [List.getElem?_set_self hlt, List.getElem?_set_self (by omega)]
          · rw [List.getElem?_eq_none (by simpa using hlt), List.getElem?_eq_none (by simp; omega)]
        · rcases h with h | h
          · exact .inl ((List.mem_cons.mp h).resolve_left fun z => hv z.symm)
          · right
            rw [List.getElem?_set_ne hv, List.getElem?_set_ne hv]
            exact h
    exact key own e' (wipeE own e') wipe_len.symm (.inl hi)
  · rw [backE_out hi, backE_out hi, wipe_out hi]
theorem wp_blkJ {β : Type} {own : List Nat} {m : M β} {Φ : β → Env → Prop} (hi : idle own e = true) (h : wp m e (fun a e' => Φ a (backE own e (wipeE own e'))) fun _ _ => False) : wp (blkE own m) e Φ Ψ := by
  refine ⟨?_⟩
  unfold blkE
  rw [if_pos hi, Tr.all_bind]
  refine Tr.All.mono h.run fun r z => ?_
  match r, z with
  | .ok a e', z =>
    show Φ a (backE own e e')
    rw [back_wipe]
    exact z
  | .err x e', z => exact z.elim
/-- a comprehension that may give slots away -/
theorem wp_lcJ {tg own : List Nat} {test : M Bool} {elt : M (Nat × D)} {l : List α} {g : α → D} {Φ : List D → Env → Prop} (J : Env → Prop) (keep : α → Bool) (f : α → D) (hi : idle own e = true) (hl : l.length ≤ sizeLine) (h0 : J (wipeE own e))
    (hs : ∀ x ∈ l, ∀ w, J w → wp (bindT tg (g x)) w (fun _ e2 => wp test e2 (fun t e3 => t = keep x ∧ if t = true then wp elt e3 (fun y e4 => y.2 = f x ∧ J (wipeE own e4)) (fun _ _ => False) else J (wipeE own e3)) fun _ _ => False) fun _ _ => False)
    (h : ∀ w, J w → Φ ((l.filter keep).map f) (backE own e w)) : wp (blkE own (compE tg own test elt (l.map g) [])) e Φ Ψ := by
  refine wp_blkJ hi (wp_compE (fun r acc e' => ∃ r0, r = r0.map g ∧ J (wipeE own e') ∧ (∀ x ∈ r0, x ∈ l) ∧ acc ++ (r0.filter keep).map f = (l.filter keep).map f) (l.map g) [] e ⟨l, rfl, h0, fun _ h => h, rfl⟩ (by simpa using hl) (fun x r acc e' ⟨r0, h0, h1, h2, h3⟩ => ?_) fun acc e' ⟨r0, h0, h1, h2, h3⟩ => ?_)
  · match r0, h0, h2, h3 with
    | x0 :: r0, h0, h2, h3 =>
      simp only [List.map_cons, List.cons.injEq] at h0
      obtain ⟨rfl, rfl⟩ := h0
      refine wp_mono (hs x0 (h2 x0 List.mem_cons_self) _ h1) (fun _ e2 z => wp_mono z (fun t e3 ⟨z1, z⟩ => ?_) fun _ _ z => z.elim) fun _ _ z => z.elim
      have h2' : ∀ y ∈ r0, y ∈ l := fun y hy => h2 y (List.mem_cons_of_mem _ hy)
      cases t with
      | true =>
        refine wp_mono z (fun y e4 ⟨z2, z3⟩ => ⟨r0, rfl, z3, h2', ?_⟩) fun _ _ z => z.elim
        rw [List.filter_cons, if_pos z1.symm, List.map_cons] at h3
        rw [z2, List.append_assoc]
        exact h3
      | false =>
        refine ⟨r0, rfl, z, h2', ?_⟩
        rw [List.filter_cons, if_neg (by rw [← z1]; exact Bool.false_ne_true)] at h3
        exact h3
  · have hr : r0 = [] := by cases r0 with | nil => rfl | cons a b => simp at h0
    subst hr
    have : acc = (l.filter keep).map f := by simpa using h3
    rw [this]
    exact h _ h1
end
end G

set_option maxHeartbeats 400000
/-! G.PlainH: while; comprehensions that draw. -/
namespace G
open PySem
section
variable {α : Type} {e : Env} {Ψ : D → Env → Prop} {sub : Nat → List Nat} {F : Nat → Fn}
theorem wp_whlL {test : M Bool} {body : M Fl} {Φ : Fl → Env → Prop} (I : Nat → Env → Prop) : ∀ (k n : Nat) (e : Env), I n e → n < k →
    (∀ n e, I n e → wp test e (fun t e1 => if t = true then wp body e1 (fun f e2 => match f with
      | .nx => ∃ m, m < n ∧ I m e2
      | .ct => ∃ m, m < n ∧ I m e2
      | .bk => Φ .nx e2
      | .rt n d => Φ (.rt n d) e2) Ψ else Φ .nx e1) Ψ) → wp (whlL test body k) e Φ Ψ
  | 0, n, e, h, hn, _ => absurd hn (Nat.not_lt_zero _)
  | k + 1, n, e, h, hn, hs => by
    show wp (mb test _) e Φ Ψ
    rw [wp_mb]
    refine wp_mono (hs n e h) (fun t e1 z => ?_) fun _ _ z => z
    cases t with
    | false => exact ⟨z⟩
    | true =>
      simp only [if_true] at z
      show wp (mb body _) e1 Φ Ψ
      rw [wp_mb]
      refine wp_mono z (fun f e2 z => ?_) fun _ _ z => z
      match f, z with
      | .nx, ⟨m, hm, z⟩ => exact wp_whlL I k m e2 z (by omega) hs
      | .ct, ⟨m, hm, z⟩ => exact wp_whlL I k m e2 z (by omega) hs
      | .bk, z => exact ⟨z⟩
      | .rt n d, z => exact ⟨z⟩
theorem wp_whl {c : E} {b : Ss} {k : Nat} {Φ : Fl → Env → Prop} : wp (evS sub F (.whl k c b)) e Φ Ψ ↔ wp (whlL (ev sub F c).test (evSs sub F b) k) e Φ Ψ := Iff.rfl
/-- a comprehension that draws: what is known of its items -/
theorem wp_lcR {tg own : List Nat} {test : M Bool} {elt : M (Nat × D)} {l : List α} {g : α → D} {Φ : List D → Env → Prop} (P : α → D → Prop) (hi : idle own e = true) (hl : l.length ≤ sizeLine)
    (hs : ∀ x ∈ l, wp (bindT tg (g x)) (wipeE own e) (fun _ e2 => wp test e2 (fun t e3 => if t = true then wp elt e3 (fun y e4 => P x y.2 ∧ wipeE own e4 = wipeE own e) (fun _ _ => False) else wipeE own e3 = wipeE own e) fun _ _ => False) fun _ _ => False)
    (h : ∀ zs : List (α × D), (zs.map (·.1)).Sublist l → (∀ z ∈ zs, P z.1 z.2) → Φ (zs.map (·.2)) e) : wp (blkE own (compE tg own test elt (l.map g) [])) e Φ Ψ := by
  refine wp_blk hi (wp_compE (fun r acc e' => ∃ (r0 l0 : List α) (zs : List (α × D)), r = r0.map g ∧ wipeE own e' = wipeE own e ∧ l = l0 ++ r0 ∧ acc = zs.map (·.2) ∧ (zs.map (·.1)).Sublist l0 ∧ ∀ z ∈ zs, P z.1 z.2) (l.map g) [] e ⟨l, [], [], rfl, rfl, rfl, rfl, .slnil, fun _ z => nomatch z⟩ (by simpa using hl) (fun x r acc e' ⟨r0, l0, zs, h0, h1, h2, h3, h4, h5⟩ => ?_) fun acc e' ⟨r0, l0, zs, h0, h1, h2, h3, h4, h5⟩ => ⟨wipe_same.mpr h1, ?_⟩)
  · match r0, h0, h2 with
    | x0 :: r0, h0, h2 =>
      simp only [List.map_cons, List.cons.injEq] at h0
      obtain ⟨rfl, rfl⟩ := h0
      have hm : x0 ∈ l := by rw [h2]; simp
      rw [h1]
      refine wp_mono (hs x0 hm) (fun _ e2 z => wp_mono z (fun t e3 z => ?_) fun _ _ z => z.elim) fun _ _ z => z.elim
      have e5 : l = (l0 ++ [x0]) ++ r0 := by rw [h2]; simp
      cases t with
      | true =>
        refine wp_mono z (fun y e4 ⟨z2, z3⟩ => ⟨r0, l0 ++ [x0], zs ++ [(x0, y.2)], rfl, z3, e5, by rw [h3]; simp, ?_, fun z hz => ?_⟩) fun _ _ z => z.elim
        · rw [List.map_append]
          exact h4.append (List.Sublist.refl _)
        · rcases List.mem_append.mp hz with hz | hz
          · exact h5 z hz
          · rw [List.mem_singleton.mp hz]; exact z2
      | false => exact ⟨r0, l0 ++ [x0], zs, rfl, z, e5, h3, h4.trans (List.sublist_append_left _ _), h5⟩
  · have hr : r0 = [] := by cases r0 with | nil => rfl | cons a b => simp at h0
    subst hr
    rw [h3]
    have : l = l0 := by simpa using h2
    exact h zs (by rw [this]; exact h4) h5
/-- .. all items -/
theorem wp_lcRA {tg own : List Nat} {elt : M (Nat × D)} {l : List α} {g : α → D} {Φ : List D → Env → Prop} (P : α → D → Prop) (hi : idle own e = true) (hl : l.length ≤ sizeLine)
    (hs : ∀ x ∈ l, wp (bindT tg (g x)) (wipeE own e) (fun _ e2 => wp elt e2 (fun y e4 => P x y.2 ∧ wipeE own e4 = wipeE own e) fun _ _ => False) fun _ _ => False)
    (h : ∀ zs : List (α × D), zs.map (·.1) = l → (∀ z ∈ zs, P z.1 z.2) → Φ (zs.map (·.2)) e) : wp (blkE own (compE tg own (evTs sub F .nil) elt (l.map g) [])) e Φ Ψ := by
  refine wp_blk hi (wp_compE (fun r acc e' => ∃ (r0 l0 : List α) (zs : List (α × D)), r = r0.map g ∧ wipeE own e' = wipeE own e ∧ l = l0 ++ r0 ∧ acc = zs.map (·.2) ∧ zs.map (·.1) = l0 ∧ ∀ z ∈ zs, P z.1 z.2) (l.map g) [] e ⟨l, [], [], rfl, rfl, rfl, rfl, rfl, fun _ z => nomatch z⟩ (by simpa using hl) (fun x r acc e' ⟨r0, l0, zs, h0, h1, h2, h3, h4, h5⟩ => ?_) fun acc e' ⟨r0, l0, zs, h0, h1, h2, h3, h4, h5⟩ => ⟨wipe_same.mpr h1, ?_⟩)
  · match r0, h0, h2 with
    | x0 :: r0, h0, h2 =>
      simp only [List.map_cons, List.cons.injEq] at h0
      obtain ⟨rfl, rfl⟩ := h0
      have hm : x0 ∈ l := by rw [h2]; simp
      rw [h1]
      refine wp_mono (hs x0 hm) (fun _ e2 z => ?_) fun _ _ z => z.elim
      rw [evTs_nil, wp_pu]
      simp only [if_true]
      have e5 : l = (l0 ++ [x0]) ++ r0 := by rw [h2]; simp
      refine wp_mono z (fun y e4 ⟨z2, z3⟩ => ⟨r0, l0 ++ [x0], zs ++ [(x0, y.2)], rfl, z3, e5, by rw [h3]; simp, by rw [List.map_append, h4]; rfl, fun z hz => ?_⟩) fun _ _ z => z.elim
      rcases List.mem_append.mp hz with hz | hz
      · exact h5 z hz
      · rw [List.mem_singleton.mp hz]; exact z2
  · have hr : r0 = [] := by cases r0 with | nil => rfl | cons a b => simp at h0
    subst hr
    rw [h3]
    have : l = l0 := by simpa using h2
    exact h zs (by rw [this]; exact h4) h5
end
theorem range_cs1 {n : Nat} : rangeD 1 ((n : Int) + 1) = (List.range n).map fun k : Nat => D.int ((k : Int) + 1) := by
  unfold rangeD
  have : ((n : Int) + 1 - 1).toNat = n := by omega
  rw [this]
  refine List.map_congr_left fun i _ => ?_
  congr 1
  omega
end G

set_option maxHeartbeats 400000
/-! G.PlainI: try, plainly. -/
namespace G
open PySem
section
variable {e : Env} {Ψ : D → Env → Prop} {sub : Nat → List Nat}
theorem wp_calm {α : Type} {m : M α} {Φ : α → Env → Prop} (h : wp m e Φ fun _ _ => False) : wp (calmM m) e Φ Ψ := by
  refine ⟨?_⟩
  unfold calmM
  rw [Tr.all_bind]
  exact h.run.mono fun r z => match r, z with
    | .ok a e', z => z
    | .err x e', z => z.elim
@[simp ↓] theorem wp_born {i : Nat} {x : D} {Φ : Unit → Env → Prop} : wp (bornE (some i) x) e Φ Ψ ↔ wp (setE i (0, x)) e Φ Ψ := Iff.rfl
@[simp ↓] theorem wp_born0 {x : D} {Φ : Unit → Env → Prop} : wp (bornE none x) e Φ Ψ ↔ Φ () e := wpi
@[simp ↓] theorem wp_gone {i : Nat} {Φ : Unit → Env → Prop} : wp (goneE (some i)) e Φ Ψ ↔ Φ () (e.set i none) := wpi
@[simp ↓] theorem wp_gone0 {Φ : Unit → Env → Prop} : wp (goneE none) e Φ Ψ ↔ Φ () e := wpi
theorem tryK_hit {c k : Nat} {i : Option Nat} {h : M Fl} {fs : List D} {Φ : Fl → Env → Prop} (h1 : (sub k).isEmpty = false) (h2 : (sub c).isEmpty = false) (h3 : (sub k).contains c = true) (hw : wp (mb (bornE i (.exn k fs)) fun _ => mb (calmM h) fun f => mb (goneE i) fun _ => pu f) e Φ Ψ) :
    (tryK sub c i h (.err (.exn k fs) e)).All (pst Φ Ψ) := by
  show (if ((sub k).isEmpty || (sub c).isEmpty) = true then Tr.ret .no else if (sub k).contains c = true then (mb (bornE i (.exn k fs)) fun _ => mb (calmM h) fun f => mb (goneE i) fun _ => pu f) e else Tr.ret (.err (.exn k fs) e)).All _
  rw [if_neg (by rw [h1, h2]; decide), if_pos h3]
  exact hw.run
end
end G

set_option maxHeartbeats 1000000
namespace K
open PySem PySem.Spec PyProof.Rows L2 G LamX
abbrev top (i : Nat) : Stmt := PySem.Challenge.pw_inplace_k50_patterns_and_held_cells.main.body.getD i (.Pass ⟨0, 0, 0, 0⟩)
abbrev s__law_draw : Stmt := top 20
abbrev n__law_draw : List Str := ["_law_state", "_law_many", "_law_stock", "_law_at", "_law_cell", "_law_found"]
abbrev p__law_draw : List Str := ["_law_state", "_law_many"]
theorem sc__law_draw : FnScope n__law_draw p__law_draw (defScope s__law_draw) := ⟨rfl, rfl, rfl, by decide +kernel, rfl, by decide +kernel, by decide +kernel⟩
abbrev s_is_integer : Stmt := top 6
abbrev n_is_integer : List Str := ["value"]
abbrev p_is_integer : List Str := ["value"]
theorem sc_is_integer : FnScope n_is_integer p_is_integer (defScope s_is_integer) := ⟨rfl, rfl, rfl, by decide +kernel, rfl, by decide +kernel, by decide +kernel⟩
abbrev s_is_row : Stmt := top 9
abbrev n_is_row : List Str := ["item", "size", "cell"]
abbrev p_is_row : List Str := ["item", "size"]
theorem sc_is_row : FnScope n_is_row p_is_row (defScope s_is_row) := ⟨rfl, rfl, rfl, by decide +kernel, rfl, by decide +kernel, by decide +kernel⟩
abbrev s_first_wrong_row : Stmt := top 10
abbrev n_first_wrong_row : List Str := ["value", "index", "item"]
abbrev p_first_wrong_row : List Str := ["value"]
theorem sc_first_wrong_row : FnScope n_first_wrong_row p_first_wrong_row (defScope s_first_wrong_row) := ⟨rfl, rfl, rfl, by decide +kernel, rfl, by decide +kernel, by decide +kernel⟩
abbrev s_is_pattern : Stmt := top 11
abbrev n_is_pattern : List Str := ["value"]
abbrev p_is_pattern : List Str := ["value"]
theorem sc_is_pattern : FnScope n_is_pattern p_is_pattern (defScope s_is_pattern) := ⟨rfl, rfl, rfl, by decide +kernel, rfl, by decide +kernel, by decide +kernel⟩
abbrev s_need_pattern : Stmt := top 12
abbrev n_need_pattern : List Str := ["pattern", "index"]
abbrev p_need_pattern : List Str := ["pattern"]
theorem sc_need_pattern : FnScope n_need_pattern p_need_pattern (defScope s_need_pattern) := ⟨rfl, rfl, rfl, by decide +kernel, rfl, by decide +kernel, by decide +kernel⟩
abbrev s_need_cells : Stmt := top 13
abbrev n_need_cells : List Str := ["pattern", "value", "is_whole", "cell"]
abbrev p_need_cells : List Str := ["pattern", "value", "is_whole"]
theorem sc_need_cells : FnScope n_need_cells p_need_cells (defScope s_need_cells) := ⟨rfl, rfl, rfl, by decide +kernel, rfl, by decide +kernel, by decide +kernel⟩
abbrev s_offsets : Stmt := top 14
abbrev n_offsets : List Str := ["cells", "steps", "known", "cell", "other", "step"]
abbrev p_offsets : List Str := ["cells", "steps"]
theorem sc_offsets : FnScope n_offsets p_offsets (defScope s_offsets) := ⟨rfl, rfl, rfl, by decide +kernel, rfl, by decide +kernel, by decide +kernel⟩
abbrev s_held_by : Stmt := top 15
abbrev n_held_by : List Str := ["pattern", "done", "left", "cell", "other"]
abbrev p_held_by : List Str := ["pattern", "done"]
theorem sc_held_by : FnScope n_held_by p_held_by (defScope s_held_by) := ⟨rfl, rfl, rfl, by decide +kernel, rfl, by decide +kernel, by decide +kernel⟩
abbrev s_held : Stmt := top 16
abbrev n_held : List Str := ["pattern", "done"]
abbrev p_held : List Str := ["pattern", "done"]
theorem sc_held : FnScope n_held p_held (defScope s_held) := ⟨rfl, rfl, rfl, by decide +kernel, rfl, by decide +kernel, by decide +kernel⟩
abbrev s_saved : Stmt := top 17
abbrev n_saved : List Str := ["pattern", "order", "many"]
abbrev p_saved : List Str := ["pattern", "order"]
theorem sc_saved : FnScope n_saved p_saved (defScope s_saved) := ⟨rfl, rfl, rfl, by decide +kernel, rfl, by decide +kernel, by decide +kernel⟩
abbrev s__law_begin : Stmt := top 19
abbrev n__law_begin : List Str := ["_law_script", "_law_cell"]
abbrev p__law_begin : List Str := ["_law_script"]
theorem sc__law_begin : FnScope n__law_begin p__law_begin (defScope s__law_begin) := ⟨rfl, rfl, rfl, by decide +kernel, rfl, by decide +kernel, by decide +kernel⟩
abbrev s__law_pick : Stmt := top 21
abbrev n__law_pick : List Str := ["_law_state", "_law_some"]
abbrev p__law_pick : List Str := ["_law_state", "_law_some"]
theorem sc__law_pick : FnScope n__law_pick p__law_pick (defScope s__law_pick) := ⟨rfl, rfl, rfl, by decide +kernel, rfl, by decide +kernel, by decide +kernel⟩
abbrev s__law_mixed : Stmt := top 22
abbrev n__law_mixed : List Str := ["_law_state", "_law_some", "_law_left", "_law_found"]
abbrev p__law_mixed : List Str := ["_law_state", "_law_some"]
theorem sc__law_mixed : FnScope n__law_mixed p__law_mixed (defScope s__law_mixed) := ⟨rfl, rfl, rfl, by decide +kernel, rfl, by decide +kernel, by decide +kernel⟩
abbrev s__law_grid : Stmt := top 23
abbrev n__law_grid : List Str := ["_law_state", "_law_most_here", "_law_bar", "_law_size", "_law_way", "_law_some", "_law_cell", "_law_k", "_law_one"]
abbrev p__law_grid : List Str := ["_law_state", "_law_most_here"]
theorem sc__law_grid : FnScope n__law_grid p__law_grid (defScope s__law_grid) := ⟨rfl, rfl, rfl, by decide +kernel, rfl, by decide +kernel, by decide +kernel⟩
abbrev s__law_kept : Stmt := top 24
abbrev n__law_kept : List Str := ["_law_grid_here", "_law_ready", "_law_rest", "_law_cell", "_law_one"]
abbrev p__law_kept : List Str := ["_law_grid_here", "_law_ready"]
theorem sc__law_kept : FnScope n__law_kept p__law_kept (defScope s__law_kept) := ⟨rfl, rfl, rfl, by decide +kernel, rfl, by decide +kernel, by decide +kernel⟩
abbrev s__law_most : Stmt := top 25
abbrev n__law_most : List Str := ["_law_grid_here", "_law_line", "_law_many"]
abbrev p__law_most : List Str := ["_law_grid_here", "_law_line"]
theorem sc__law_most : FnScope n__law_most p__law_most (defScope s__law_most) := ⟨rfl, rfl, rfl, by decide +kernel, rfl, by decide +kernel, by decide +kernel⟩
abbrev s__law_error : Stmt := top 26
abbrev n__law_error : List Str := ["_law_work", "_law_caught", "e", "_law_marks", "_law_some", "_law_word", "_law_is_it"]
abbrev p__law_error : List Str := ["_law_work"]
theorem sc__law_error : FnScope n__law_error p__law_error (defScope s__law_error) := ⟨rfl, rfl, rfl, by decide +kernel, rfl, by decide +kernel, by decide +kernel⟩
abbrev s__law_wrong : Stmt := top 27
abbrev n__law_wrong : List Str := ["_law_grid_here", "_law_index", "_law_row", "_law_at", "_law_cell"]
abbrev p__law_wrong : List Str := ["_law_grid_here"]
theorem sc__law_wrong : FnScope n__law_wrong p__law_wrong (defScope s__law_wrong) := ⟨rfl, rfl, rfl, by decide +kernel, rfl, by decide +kernel, by decide +kernel⟩
abbrev s__law_bent : Stmt := top 28
abbrev n__law_bent : List Str := ["_law_state", "_law_grid_here", "_law_at", "_law_way", "_law_made"]
abbrev p__law_bent : List Str := ["_law_state", "_law_grid_here"]
theorem sc__law_bent : FnScope n__law_bent p__law_bent (defScope s__law_bent) := ⟨rfl, rfl, rfl, by decide +kernel, rfl, by decide +kernel, by decide +kernel⟩
abbrev s__law_offsets_right : Stmt := top 29
abbrev n__law_offsets_right : List Str := ["_law_state", "_law_due", "_law_cell", "_law_told", "_law_odd", "_law_bad", "_law_works", "_law_size", "_law_some", "_law_k", "_law_work", "_law_one"]
abbrev p__law_offsets_right : List Str := ["_law_state"]
theorem sc__law_offsets_right : FnScope n__law_offsets_right p__law_offsets_right (defScope s__law_offsets_right) := ⟨rfl, rfl, rfl, by decide +kernel, rfl, by decide +kernel, by decide +kernel⟩
abbrev s__law_refused : Stmt := top 30
abbrev n__law_refused : List Str := ["_law_state", "_law_grid_here", "_law_none", "_law_worth", "_law_index", "_law_works", "_law_work"]
abbrev p__law_refused : List Str := ["_law_state", "_law_grid_here"]
theorem sc__law_refused : FnScope n__law_refused p__law_refused (defScope s__law_refused) := ⟨rfl, rfl, rfl, by decide +kernel, rfl, by decide +kernel, by decide +kernel⟩
abbrev s_law : Stmt := top 31
abbrev n_law : List Str := ["_law_script", "_law_state", "_law_turn", "_law_grid_here", "_law_again", "_law_worth", "_law_change", "_law_line", "_law_ready", "_law_told", "_law_many", "_law_due", "_law_shown"]
abbrev p_law : List Str := ["_law_script"]
theorem sc_law : FnScope n_law p_law (defScope s_law) := ⟨rfl, rfl, rfl, by decide +kernel, rfl, by decide +kernel, by decide +kernel⟩
/-- the classes of errors -/
def ct : ClsT := [("InplaceError", [], [0]), ("InvalidCell", ["index"], [1, 0]), ("InvalidOrder", ["index"], [2, 0]), ("InvalidSweep", ["index"], [3, 0])]
def tbl_index : List (Nat × Nat) := [(1, 0), (2, 0), (3, 0)]
theorem tok_index : ∀ c i, tbl_index.lookup c = some i → (ct.sub c).isEmpty = false ∧ ct.cf c = [("index" : Str)] ∧ i = 0 := tokB (by decide +kernel)
/-- what the top has written -/
structure Txt (K : PySem.W.Frag) (mg : Str → Option Value) (fd : Nat → FuncData) (fi : Nat → FuncData) : Prop where
  f__law_draw : FE K mg "_law_draw" s__law_draw p__law_draw (He.ga K "_law_draw") (fd 11)
  f_is_integer : FE K mg "is_integer" s_is_integer p_is_integer (He.ga K "is_integer") (fd 0)
  f_is_row : FE K mg "is_row" s_is_row p_is_row (He.ga K "is_row") (fd 1)
  f_first_wrong_row : FE K mg "first_wrong_row" s_first_wrong_row p_first_wrong_row (He.ga K "first_wrong_row") (fd 2)
  f_is_pattern : FE K mg "is_pattern" s_is_pattern p_is_pattern (He.ga K "is_pattern") (fd 3)
  f_need_pattern : FE K mg "need_pattern" s_need_pattern p_need_pattern (He.ga K "need_pattern") (fd 4)
  f_need_cells : FE K mg "need_cells" s_need_cells p_need_cells (He.ga K "need_cells") (fd 5)
  f_offsets : FE K mg "offsets" s_offsets p_offsets (He.ga K "offsets") (fd 6)
  f_held_by : FE K mg "held_by" s_held_by p_held_by (He.ga K "held_by") (fd 7)
  f_held : FE K mg "held" s_held p_held (He.ga K "held") (fd 8)
  f_saved : FE K mg "saved" s_saved p_saved (He.ga K "saved") (fd 9)
  f__law_begin : FE K mg "_law_begin" s__law_begin p__law_begin (He.ga K "_law_begin") (fd 10)
  f__law_pick : FE K mg "_law_pick" s__law_pick p__law_pick (He.ga K "_law_pick") (fd 12)
  f__law_mixed : FE K mg "_law_mixed" s__law_mixed p__law_mixed (He.ga K "_law_mixed") (fd 13)
  f__law_grid : FE K mg "_law_grid" s__law_grid p__law_grid (He.ga K "_law_grid") (fd 14)
  f__law_kept : FE K mg "_law_kept" s__law_kept p__law_kept (He.ga K "_law_kept") (fd 15)
  f__law_most : FE K mg "_law_most" s__law_most p__law_most (He.ga K "_law_most") (fd 16)
  f__law_error : FE K mg "_law_error" s__law_error p__law_error (He.ga K "_law_error") (fd 17)
  f__law_wrong : FE K mg "_law_wrong" s__law_wrong p__law_wrong (He.ga K "_law_wrong") (fd 18)
  f__law_bent : FE K mg "_law_bent" s__law_bent p__law_bent (He.ga K "_law_bent") (fd 19)
  f__law_offsets_right : FE K mg "_law_offsets_right" s__law_offsets_right p__law_offsets_right (He.ga K "_law_offsets_right") (fd 20)
  f__law_refused : FE K mg "_law_refused" s__law_refused p__law_refused (He.ga K "_law_refused") (fd 21)
  f_law : FE K mg "law" s_law p_law (He.ga K "law") (fd 22)
  i_InvalidOrder : FI K mg "InvalidOrder" (clsM (top 3) 0) ["self", "index"] (ct.ca K 2) (He.ma K (He.ga K "InvalidOrder") "__init__") (fi 2)
  i_InvalidSweep : FI K mg "InvalidSweep" (clsM (top 4) 0) ["self", "index"] (ct.ca K 3) (He.ma K (He.ga K "InvalidSweep") "__init__") (fi 3)
  c_InplaceError : mg "InplaceError" = some (.ref (ct.ca K 0))
  c_InvalidCell : mg "InvalidCell" = some (.ref (ct.ca K 1))
  c_InvalidOrder : mg "InvalidOrder" = some (.ref (ct.ca K 2))
  c_InvalidSweep : mg "InvalidSweep" = some (.ref (ct.ca K 3))
  xt : XT K (ct.ca K) ct.cf ct.sub
  ba : BaseI K (ct.ca K 0)
structure Blt (mg : Str → Option Value) : Prop where
  ValueError : mg "ValueError" = none
  abs : mg "abs" = none
  all : mg "all" = none
  any : mg "any" = none
  bool : mg "bool" = none
  enumerate : mg "enumerate" = none
  int : mg "int" = none
  isinstance : mg "isinstance" = none
  len : mg "len" = none
  list : mg "list" = none
  max : mg "max" = none
  range : mg "range" = none
  repr : mg "repr" = none
  set : mg "set" = none
  sorted : mg "sorted" = none
  tuple : mg "tuple" = none
  c_MOST_CELLS : ∃ t, mg "MOST_CELLS" = some (.int 10 t)
section
variable {P : Program} {w : World} {K : PySem.W.Frag} {mg : Str → Option Value} {base : Heap} {fd fi : Nat → FuncData} {tl : Nat} {tb : List (Addr × Str)}
abbrev ok (w : World) (tb : List (Addr × Str)) (K : PySem.W.Frag) (tl : Nat) : Rn → Prop := OkR w tb (ct.ca K) ct.cf tl
theorem si_InvalidOrder : FnScope ["self", "index"] ["self", "index"] (defScope (clsM (top 3) 0)) := ⟨rfl, rfl, rfl, by decide +kernel, rfl, by decide +kernel, by decide +kernel⟩
theorem in_InvalidOrder (T : Txt K mg fd fi) : FnOk P w K mg base CX0 1 (He.ma K (He.ga K "InvalidOrder") "__init__") (fi 2) ["self", "index"] (spX (ct.ca K 2) "index") := by
  have O : OexC K (ct.ca K 2) := T.xt.ox 2 (by decide)
  obtain ⟨q, F⟩ := T.i_InvalidOrder.fu
  refine F.ok si_InvalidOrder (fun vs H Q E h => by obtain ⟨a, y, rfl, _⟩ := h; rfl) fun cdv A outer s H vs Q E hr h => ⟨_, pss_cons (ps_expr (pe_oinit rfl T.c_InplaceError T.ba (pa_cons (pv 0) (pa_cons pe_str pa_nil)))) (pss_one (ps_ostX (pv 0) (pv 1))), ?_⟩
  obtain ⟨a, y, rfl, ha, k⟩ := h
  exact ⟨_, rfl, a, _, _, rfl, by decide, O, ha, _, rfl, _, rfl, a, _, rfl, O, T.xt.no 2 "index" (by decide) (by decide), ha, k⟩
theorem mk_InvalidOrder (T : Txt K mg fd fi) : MkC P w K mg base (ct.ca K 2) (He.ma K (He.ga K "InvalidOrder") "__init__") 1 (fi 2) ["self", "index"] (spX (ct.ca K 2) "index") := ⟨T.xt.ox 2 (by decide), T.i_InvalidOrder.iC, T.i_InvalidOrder.tI, in_InvalidOrder T, T.i_InvalidOrder.b⟩
theorem bk_InvalidOrder (T : Txt K mg fd fi) (s : Shared) (u w : Value) : BindsTo s (fi 2) ⟨[u], [("index", w)]⟩ [("self", u), ("index", w)] := by
  obtain ⟨q, F⟩ := T.i_InvalidOrder.fu
  obtain ⟨oc, od, kV, doc, pm, an, cdv, ct, osl, e, _, _⟩ := F.ex
  rw [e]
  exact .of_eq rfl
theorem si_InvalidSweep : FnScope ["self", "index"] ["self", "index"] (defScope (clsM (top 4) 0)) := ⟨rfl, rfl, rfl, by decide +kernel, rfl, by decide +kernel, by decide +kernel⟩
theorem in_InvalidSweep (T : Txt K mg fd fi) : FnOk P w K mg base CX0 1 (He.ma K (He.ga K "InvalidSweep") "__init__") (fi 3) ["self", "index"] (spX (ct.ca K 3) "index") := by
  have O : OexC K (ct.ca K 3) := T.xt.ox 3 (by decide)
  obtain ⟨q, F⟩ := T.i_InvalidSweep.fu
  refine F.ok si_InvalidSweep (fun vs H Q E h => by obtain ⟨a, y, rfl, _⟩ := h; rfl) fun cdv A outer s H vs Q E hr h => ⟨_, pss_cons (ps_expr (pe_oinit rfl T.c_InplaceError T.ba (pa_cons (pv 0) (pa_cons pe_str pa_nil)))) (pss_one (ps_ostX (pv 0) (pv 1))), ?_⟩
  obtain ⟨a, y, rfl, ha, k⟩ := h
  exact ⟨_, rfl, a, _, _, rfl, by decide, O, ha, _, rfl, _, rfl, a, _, rfl, O, T.xt.no 3 "index" (by decide) (by decide), ha, k⟩
theorem mk_InvalidSweep (T : Txt K mg fd fi) : MkC P w K mg base (ct.ca K 3) (He.ma K (He.ga K "InvalidSweep") "__init__") 1 (fi 3) ["self", "index"] (spX (ct.ca K 3) "index") := ⟨T.xt.ox 3 (by decide), T.i_InvalidSweep.iC, T.i_InvalidSweep.tI, in_InvalidSweep T, T.i_InvalidSweep.b⟩
theorem bk_InvalidSweep (T : Txt K mg fd fi) (s : Shared) (u w : Value) : BindsTo s (fi 3) ⟨[u], [("index", w)]⟩ [("self", u), ("index", w)] := by
  obtain ⟨q, F⟩ := T.i_InvalidSweep.fu
  obtain ⟨oc, od, kV, doc, pm, an, cdv, ct, osl, e, _, _⟩ := F.ex
  rw [e]
  exact .of_eq rfl
theorem bk_held_0_done_pattern (T : Txt K mg fd fi) : BindK (fd 8) p_held ["done", "pattern"] 0 2 [1, 0] := ⟨fun s us ws h1 h2 => by
  obtain ⟨oc, od, kV, doc, pm, an, cdv, ct, osl, e, _, _⟩ := T.f_held.fu.ex
  rw [e]
  match us, ws, h1, h2 with
  | [], [w0, w1], _, _ => exact .of_eq rfl⟩
theorem bk_is_pattern_0_value (T : Txt K mg fd fi) : BindK (fd 3) p_is_pattern ["value"] 0 1 [0] := ⟨fun s us ws h1 h2 => by
  obtain ⟨oc, od, kV, doc, pm, an, cdv, ct, osl, e, _, _⟩ := T.f_is_pattern.fu.ex
  rw [e]
  match us, ws, h1, h2 with
  | [], [w0], _, _ => exact .of_eq rfl⟩
theorem bk_offsets_0_steps_cells (T : Txt K mg fd fi) : BindK (fd 6) p_offsets ["steps", "cells"] 0 2 [1, 0] := ⟨fun s us ws h1 h2 => by
  obtain ⟨oc, od, kV, doc, pm, an, cdv, ct, osl, e, _, _⟩ := T.f_offsets.fu.ex
  rw [e]
  match us, ws, h1, h2 with
  | [], [w0, w1], _, _ => exact .of_eq rfl⟩
theorem bk_saved_0_order_pattern (T : Txt K mg fd fi) : BindK (fd 9) p_saved ["order", "pattern"] 0 2 [1, 0] := ⟨fun s us ws h1 h2 => by
  obtain ⟨oc, od, kV, doc, pm, an, cdv, ct, osl, e, _, _⟩ := T.f_saved.fu.ex
  rw [e]
  match us, ws, h1, h2 with
  | [], [w0, w1], _, _ => exact .of_eq rfl⟩
def T0 : Nat → Fn := fun _ _ => .ret .no
def F__law_draw : Fn := drawF
def T1 : Nat → Fn := fun j => if j = 11 then F__law_draw else T0 j
abbrev ir_is_integer : Ss :=
      (.cons (.ret (.and (.b (.isi [.int] true) (.cons (.v 0) .nil)) (.not (.b (.isi [.bool] true) (.cons (.v 0) .nil)))))
      .nil)
def F_is_integer : Fn := fnOf ct.sub T1 n_is_integer.length ir_is_integer
theorem ok_is_integer (T : Txt K mg fd fi) (N : Blt mg)  : FnG P w K mg base 1 (He.ga K "is_integer") (fd 0) p_is_integer (fsp (ok w tb K tl) 1 F_is_integer) := fnG_of (k := 0) T.f_is_integer.fu sc_is_integer rfl fun cdv A outer s H E R hR C hr tk =>
      (jss_cons (js_ret (je_and (jb_and (je_isi1 rfl N.isinstance je_v (jty_int rfl N.int)) (jb_and1 (je_not (je_isi1 rfl N.isinstance je_v (jty_bool rfl N.bool)))))))
      jss_nil)
def T2 : Nat → Fn := fun j => if j = 0 then F_is_integer else T1 j
abbrev ir_is_row : Ss :=
      (.cons (.ite (.or (.not (.b (.isi [.tuple] true) (.cons (.v 0) .nil))) (.not (.b .all (.cons (.lc [("cell", 2)] [2] .seq (.cons (.v 0) .nil) .nil (.and (.f 0 (.cons (.v 2) .nil) [] [0]) (.ch .le .lt (.c (.int 0)) (.v 2) (.v 1)))) .nil)))) (.cons (.ret (.c (.bl false)))
      .nil) .nil)
      (.cons (.ret (.b .eq (.cons (.b .list (.cons (.v 0) .nil)) (.cons (.b .sorted (.cons (.b .set (.cons (.v 0) .nil)) .nil)) .nil))))
      .nil))
theorem t2_0 : T2 0 = F_is_integer := by simp [T0, T1, T2]
def F_is_row : Fn := fnOf ct.sub T2 n_is_row.length ir_is_row
theorem ok_is_row (T : Txt K mg fd fi) (N : Blt mg) (g_is_integer : FnG P w K mg base 1 (He.ga K "is_integer") (fd 0) p_is_integer (fsp (ok w tb K tl) 1 F_is_integer)) : FnG P w K mg base 2 (He.ga K "is_row") (fd 1) p_is_row (fsp (ok w tb K tl) 2 F_is_row) := fnG_of (k := 1) T.f_is_row.fu sc_is_row rfl fun cdv A outer s H E R hR C hr tk =>
      (jss_cons (js_if (je_or (jb_or (je_not (je_isi1 rfl N.isinstance je_v (jty_tuple rfl N.tuple))) (jb_or1 (je_not (je_all C rfl N.all (ja_cons (lc_val C (ji_seq je_v) (fun _ _ _ _ _ C => (jg_name C)) (fun _ _ _ _ _ C => jts_nil) (fun _ _ _ _ _ C => (je_and (jb_and (je_call C g_is_integer t2_0 hR takes_wNo (hr.mono (by decide)) rfl T.f_is_integer.m T.f_is_integer.fu.kp T.f_is_integer.b (ja_cons je_v ja_nil)) (jb_and1 (je_le_lt je_int je_v je_v)))))) ja_nil)))))) (jss_cons (js_ret je_bl)
      jss_nil) jss_nil)
      (jss_cons (js_ret (je_eq C (je_list C rfl N.list (ja_cons je_v ja_nil)) (je_sorted C hR.w rfl N.sorted (ja_cons (je_set C hR.w rfl N.set (ja_cons je_v ja_nil)) ja_nil))))
      jss_nil))
def T3 : Nat → Fn := fun j => if j = 1 then F_is_row else T2 j
abbrev ir_first_wrong_row : Ss :=
      (.cons (.ite (.or (.not (.b (.isi [.list, .tuple] false) (.cons (.v 0) .nil))) (.not (.ch .le .le (.c (.int 1)) (.b .len (.cons (.v 0) .nil)) (.g "MOST_CELLS" (.int 10))))) (.cons (.ret (.c (.int 0)))
      .nil) .nil)
      (.cons (.ret (.b .idx (.cons (.b .add (.cons (.lc [("index", 1), ("item", 2)] [1, 2] .enum (.cons (.v 0) .nil) (.cons (.not (.f 1 (.cons (.v 2) (.cons (.b .len (.cons (.v 0) .nil)) .nil)) [] [0, 1])) .nil) (.v 1)) (.cons (.lst (.cons (.c .non) .nil)) .nil))) (.cons (.c (.int 0)) .nil))))
      .nil))
theorem t3_1 : T3 1 = F_is_row := by simp [T0, T1, T2, T3]
def F_first_wrong_row : Fn := fnOf ct.sub T3 n_first_wrong_row.length ir_first_wrong_row
theorem ok_first_wrong_row (T : Txt K mg fd fi) (N : Blt mg) (g_is_row : FnG P w K mg base 2 (He.ga K "is_row") (fd 1) p_is_row (fsp (ok w tb K tl) 2 F_is_row)) : FnG P w K mg base 3 (He.ga K "first_wrong_row") (fd 2) p_first_wrong_row (fsp (ok w tb K tl) 1 F_first_wrong_row) := fnG_of (k := 2) T.f_first_wrong_row.fu sc_first_wrong_row rfl fun cdv A outer s H E R hR C hr tk =>
      (jss_cons (js_if (je_or (jb_or (je_not (je_isiN rfl N.isinstance je_v (jtys_cons (jty_list rfl N.list) (jtys_cons (jty_tuple rfl N.tuple) jtys_nil)))) (jb_or1 (je_not (je_le_le je_int (je_len rfl N.len (ja_cons je_v ja_nil)) (je_gint rfl N.c_MOST_CELLS.choose_spec)))))) (jss_cons (js_ret je_int)
      jss_nil) jss_nil)
      (jss_cons (js_ret (je_idx (je_add (lc_val C (ji_enumA rfl N.enumerate (ja_cons je_v ja_nil)) (fun _ _ _ _ _ C => (jg_tup C (jgs_cons C (jgs_cons C jgs_nil)))) (fun _ _ _ _ _ C => (jts_one (je_not (je_call C g_is_row t3_1 hR takes_wNo (hr.mono (by decide)) rfl T.f_is_row.m T.f_is_row.fu.kp T.f_is_row.b (ja_cons je_v (ja_cons (je_len rfl N.len (ja_cons je_v ja_nil)) ja_nil)))))) (fun _ _ _ _ _ C => je_v)) (je_lst (ja_cons je_non ja_nil))) je_int))
      jss_nil))
def T4 : Nat → Fn := fun j => if j = 2 then F_first_wrong_row else T3 j
abbrev ir_is_pattern : Ss :=
      (.cons (.ret (.b .isN (.cons (.f 2 (.cons (.v 0) .nil) [] [0]) .nil)))
      .nil)
theorem t4_2 : T4 2 = F_first_wrong_row := by simp [T0, T1, T2, T3, T4]
def F_is_pattern : Fn := fnOf ct.sub T4 n_is_pattern.length ir_is_pattern
theorem ok_is_pattern (T : Txt K mg fd fi) (N : Blt mg) (g_first_wrong_row : FnG P w K mg base 3 (He.ga K "first_wrong_row") (fd 2) p_first_wrong_row (fsp (ok w tb K tl) 1 F_first_wrong_row)) : FnG P w K mg base 4 (He.ga K "is_pattern") (fd 3) p_is_pattern (fsp (ok w tb K tl) 1 F_is_pattern) := fnG_of (k := 3) T.f_is_pattern.fu sc_is_pattern rfl fun cdv A outer s H E R hR C hr tk =>
      (jss_cons (js_ret (je_isN (je_call C g_first_wrong_row t4_2 hR tk (hr.mono (by decide)) rfl T.f_first_wrong_row.m T.f_first_wrong_row.fu.kp T.f_first_wrong_row.b (ja_cons je_v ja_nil))))
      jss_nil)
def T5 : Nat → Fn := fun j => if j = 3 then F_is_pattern else T4 j
abbrev ir_need_pattern : Ss :=
      (.cons (.asg 1 (.f 2 (.cons (.v 0) .nil) [] [0]))
      (.cons (.ite (.b .notN (.cons (.v 1) .nil)) (.cons (.rse 3 (.cons (.v 1) .nil))
      .nil) .nil)
      .nil))
theorem t5_2 : T5 2 = F_first_wrong_row := by simp [T0, T1, T2, T3, T4, T5]
def F_need_pattern : Fn := fnOf ct.sub T5 n_need_pattern.length ir_need_pattern
theorem ok_need_pattern (T : Txt K mg fd fi) (N : Blt mg) (g_first_wrong_row : FnG P w K mg base 3 (He.ga K "first_wrong_row") (fd 2) p_first_wrong_row (fsp (ok w tb K tl) 1 F_first_wrong_row)) : FnG P w K mg base 4 (He.ga K "need_pattern") (fd 4) p_need_pattern (fsp (ok w tb K tl) 1 F_need_pattern) := fnG_of (k := 3) T.f_need_pattern.fu sc_need_pattern rfl fun cdv A outer s H E R hR C hr tk =>
      (jss_cons (js_asg C (je_call C g_first_wrong_row t5_2 hR tk (hr.mono (by decide)) rfl T.f_first_wrong_row.m T.f_first_wrong_row.fu.kp T.f_first_wrong_row.b (ja_cons je_v ja_nil)))
      (jss_cons (js_if (je_notN je_v) (jss_cons (js_rse1 (c := 3) C (congrFun hR.ca 3) (congrFun hR.cf 3) (mk_InvalidSweep T) tk (hr.mono (by decide)) rfl T.c_InvalidSweep je_v)
      jss_nil) jss_nil)
      jss_nil))
def T6 : Nat → Fn := fun j => if j = 4 then F_need_pattern else T5 j
abbrev ir_need_cells : Ss :=
      (.cons (.ite (.not (.b (.isi [.list, .tuple] false) (.cons (.v 1) .nil))) (.cons (.rse 2 (.cons (.c (.int 0)) .nil))
      .nil) .nil)
      (.cons (.ite (.or (.not (.b .all (.cons (.lc [("cell", 3)] [3] .seq (.cons (.v 1) .nil) .nil (.and (.f 0 (.cons (.v 3) .nil) [] [0]) (.ch .le .lt (.c (.int 0)) (.v 3) (.b .len (.cons (.v 0) .nil))))) .nil))) (.b .lt (.cons (.b .len (.cons (.b .set (.cons (.v 1) .nil)) .nil)) (.cons (.b .len (.cons (.v 1) .nil)) .nil)))) (.cons (.rse 2 (.cons (.c (.int 0)) .nil))
      .nil) .nil)
      (.cons (.ite (.and (.v 2) (.b .lt (.cons (.b .len (.cons (.v 1) .nil)) (.cons (.b .len (.cons (.v 0) .nil)) .nil)))) (.cons (.rse 2 (.cons (.c (.int 0)) .nil))
      .nil) .nil)
      .nil)))
theorem t6_0 : T6 0 = F_is_integer := by simp [T0, T1, T2, T3, T4, T5, T6]
def F_need_cells : Fn := fnOf ct.sub T6 n_need_cells.length ir_need_cells
theorem ok_need_cells (T : Txt K mg fd fi) (N : Blt mg) (g_is_integer : FnG P w K mg base 1 (He.ga K "is_integer") (fd 0) p_is_integer (fsp (ok w tb K tl) 1 F_is_integer)) : FnG P w K mg base 3 (He.ga K "need_cells") (fd 5) p_need_cells (fsp (ok w tb K tl) 3 F_need_cells) := fnG_of (k := 2) T.f_need_cells.fu sc_need_cells rfl fun cdv A outer s H E R hR C hr tk =>
      (jss_cons (js_if (je_not (je_isiN rfl N.isinstance je_v (jtys_cons (jty_list rfl N.list) (jtys_cons (jty_tuple rfl N.tuple) jtys_nil)))) (jss_cons (js_rse1 (c := 2) C (congrFun hR.ca 2) (congrFun hR.cf 2) (mk_InvalidOrder T) tk (hr.mono (by decide)) rfl T.c_InvalidOrder je_int)
      jss_nil) jss_nil)
      (jss_cons (js_if (je_or (jb_or (je_not (je_all C rfl N.all (ja_cons (lc_val C (ji_seq je_v) (fun _ _ _ _ _ C => (jg_name C)) (fun _ _ _ _ _ C => jts_nil) (fun _ _ _ _ _ C => (je_and (jb_and (je_call C g_is_integer t6_0 hR takes_wNo (hr.mono (by decide)) rfl T.f_is_integer.m T.f_is_integer.fu.kp T.f_is_integer.b (ja_cons je_v ja_nil)) (jb_and1 (je_le_lt je_int je_v (je_len rfl N.len (ja_cons je_v ja_nil)))))))) ja_nil))) (jb_or1 (je_lt (je_len rfl N.len (ja_cons (je_set C hR.w rfl N.set (ja_cons je_v ja_nil)) ja_nil)) (je_len rfl N.len (ja_cons je_v ja_nil)))))) (jss_cons (js_rse1 (c := 2) C (congrFun hR.ca 2) (congrFun hR.cf 2) (mk_InvalidOrder T) tk (hr.mono (by decide)) rfl T.c_InvalidOrder je_int)
      jss_nil) jss_nil)
      (jss_cons (js_if (je_and (jb_and je_v (jb_and1 (je_lt (je_len rfl N.len (ja_cons je_v ja_nil)) (je_len rfl N.len (ja_cons je_v ja_nil)))))) (jss_cons (js_rse1 (c := 2) C (congrFun hR.ca 2) (congrFun hR.cf 2) (mk_InvalidOrder T) tk (hr.mono (by decide)) rfl T.c_InvalidOrder je_int)
      jss_nil) jss_nil)
      jss_nil)))
def T7 : Nat → Fn := fun j => if j = 5 then F_need_cells else T6 j
abbrev ir_offsets : Ss :=
      (.cons (.ite (.or (.not (.f 0 (.cons (.v 0) .nil) [] [0])) (.not (.ch .le .le (.c (.int 1)) (.v 0) (.g "MOST_CELLS" (.int 10))))) (.cons (.rse 3 (.cons (.c (.int 0)) .nil))
      .nil) .nil)
      (.cons (.ite (.or (.not (.b (.isi [.list, .tuple] false) (.cons (.v 1) .nil))) (.not (.b .all (.cons (.lc [("step", 5)] [5] .seq (.cons (.v 1) .nil) .nil (.f 0 (.cons (.v 5) .nil) [] [0])) .nil)))) (.cons (.rse 3 (.cons (.c (.int 1)) .nil))
      .nil) .nil)
      (.cons (.asg 2 (.b .set (.cons (.v 1) .nil)))
      (.cons (.ret (.lc [("cell", 3)] [3] .range1 (.cons (.v 0) .nil) .nil (.b .tuple (.cons (.lc [("other", 4)] [4] .range1 (.cons (.v 0) .nil) (.cons (.b .inn (.cons (.b .sub (.cons (.v 4) (.cons (.v 3) .nil))) (.cons (.v 2) .nil))) .nil) (.v 4)) .nil))))
      .nil))))
theorem t7_0 : T7 0 = F_is_integer := by simp [T0, T1, T2, T3, T4, T5, T6, T7]
def F_offsets : Fn := fnOf ct.sub T7 n_offsets.length ir_offsets
theorem ok_offsets (T : Txt K mg fd fi) (N : Blt mg) (g_is_integer : FnG P w K mg base 1 (He.ga K "is_integer") (fd 0) p_is_integer (fsp (ok w tb K tl) 1 F_is_integer)) : FnG P w K mg base 3 (He.ga K "offsets") (fd 6) p_offsets (fsp (ok w tb K tl) 2 F_offsets) := fnG_of (k := 2) T.f_offsets.fu sc_offsets rfl fun cdv A outer s H E R hR C hr tk =>
      (jss_cons (js_if (je_or (jb_or (je_not (je_call C g_is_integer t7_0 hR tk (hr.mono (by decide)) rfl T.f_is_integer.m T.f_is_integer.fu.kp T.f_is_integer.b (ja_cons je_v ja_nil))) (jb_or1 (je_not (je_le_le je_int je_v (je_gint rfl N.c_MOST_CELLS.choose_spec)))))) (jss_cons (js_rse1 (c := 3) C (congrFun hR.ca 3) (congrFun hR.cf 3) (mk_InvalidSweep T) tk (hr.mono (by decide)) rfl T.c_InvalidSweep je_int)
      jss_nil) jss_nil)
      (jss_cons (js_if (je_or (jb_or (je_not (je_isiN rfl N.isinstance je_v (jtys_cons (jty_list rfl N.list) (jtys_cons (jty_tuple rfl N.tuple) jtys_nil)))) (jb_or1 (je_not (je_all C rfl N.all (ja_cons (lc_val C (ji_seq je_v) (fun _ _ _ _ _ C => (jg_name C)) (fun _ _ _ _ _ C => jts_nil) (fun _ _ _ _ _ C => (je_call C g_is_integer t7_0 hR takes_wNo (hr.mono (by decide)) rfl T.f_is_integer.m T.f_is_integer.fu.kp T.f_is_integer.b (ja_cons je_v ja_nil)))) ja_nil)))))) (jss_cons (js_rse1 (c := 3) C (congrFun hR.ca 3) (congrFun hR.cf 3) (mk_InvalidSweep T) tk (hr.mono (by decide)) rfl T.c_InvalidSweep je_int)
      jss_nil) jss_nil)
      (jss_cons (js_asg C (je_set C hR.w rfl N.set (ja_cons je_v ja_nil)))
      (jss_cons (js_ret (lc_val C (ji_range1 rfl N.range (ja_cons je_v ja_nil)) (fun _ _ _ _ _ C => (jg_name C)) (fun _ _ _ _ _ C => jts_nil) (fun _ _ _ _ _ C => (je_tuple rfl N.tuple (ja_cons (lc_val C (ji_range1 rfl N.range (ja_cons je_v ja_nil)) (fun _ _ _ _ _ C => (jg_name C)) (fun _ _ _ _ _ C => (jts_one (je_in C hR.w (je_sub je_v je_v) je_v))) (fun _ _ _ _ _ C => je_v)) ja_nil)))))
      jss_nil))))
def T8 : Nat → Fn := fun j => if j = 6 then F_offsets else T7 j
abbrev ir_held_by : Ss :=
      (.cons (.asg 2 (.lc [("cell", 3)] [3] .range1 (.cons (.b .len (.cons (.v 0) .nil)) .nil) (.cons (.b .nin (.cons (.v 3) (.cons (.v 1) .nil))) .nil) (.v 3)))
      (.cons (.ret (.lc [("cell", 3)] [3] .seq (.cons (.b .sorted (.cons (.v 1) .nil)) .nil) (.cons (.b .any (.cons (.lc [("other", 4)] [4] .seq (.cons (.v 2) .nil) .nil (.b .inn (.cons (.v 3) (.cons (.b .idx (.cons (.v 0) (.cons (.v 4) .nil))) .nil)))) .nil)) .nil) (.v 3)))
      .nil))
def F_held_by : Fn := fnOf ct.sub T8 n_held_by.length ir_held_by
theorem ok_held_by (T : Txt K mg fd fi) (N : Blt mg)  : FnG P w K mg base 1 (He.ga K "held_by") (fd 7) p_held_by (fsp (ok w tb K tl) 2 F_held_by) := fnG_of (k := 0) T.f_held_by.fu sc_held_by rfl fun cdv A outer s H E R hR C hr tk =>
      (jss_cons (js_asg C (lc_val C (ji_range1 rfl N.range (ja_cons (je_len rfl N.len (ja_cons je_v ja_nil)) ja_nil)) (fun _ _ _ _ _ C => (jg_name C)) (fun _ _ _ _ _ C => (jts_one (je_nin C hR.w je_v je_v))) (fun _ _ _ _ _ C => je_v)))
      (jss_cons (js_ret (lc_val C (ji_seq (je_sorted C hR.w rfl N.sorted (ja_cons je_v ja_nil))) (fun _ _ _ _ _ C => (jg_name C)) (fun _ _ _ _ _ C => (jts_one (je_any C rfl N.any (ja_cons (lc_val C (ji_seq je_v) (fun _ _ _ _ _ C => (jg_name C)) (fun _ _ _ _ _ C => jts_nil) (fun _ _ _ _ _ C => (je_in C hR.w je_v (je_idx je_v je_v)))) ja_nil)))) (fun _ _ _ _ _ C => je_v)))
      jss_nil))
def T9 : Nat → Fn := fun j => if j = 7 then F_held_by else T8 j
abbrev ir_held : Ss :=
      (.cons (.ex (.f 4 (.cons (.v 0) .nil) [] [0]))
      (.cons (.ex (.f 5 (.cons (.v 0) (.cons (.v 1) (.cons (.c (.bl false)) .nil))) [] [0, 1, 2]))
      (.cons (.ret (.f 7 (.cons (.v 0) (.cons (.v 1) .nil)) [] [0, 1]))
      .nil)))
theorem t9_7 : T9 7 = F_held_by := by simp [T0, T1, T2, T3, T4, T5, T6, T7, T8, T9]
theorem t9_5 : T9 5 = F_need_cells := by simp [T0, T1, T2, T3, T4, T5, T6, T7, T8, T9]
theorem t9_4 : T9 4 = F_need_pattern := by simp [T0, T1, T2, T3, T4, T5, T6, T7, T8, T9]
def F_held : Fn := fnOf ct.sub T9 n_held.length ir_held
theorem ok_held (T : Txt K mg fd fi) (N : Blt mg) (g_held_by : FnG P w K mg base 1 (He.ga K "held_by") (fd 7) p_held_by (fsp (ok w tb K tl) 2 F_held_by)) (g_need_cells : FnG P w K mg base 3 (He.ga K "need_cells") (fd 5) p_need_cells (fsp (ok w tb K tl) 3 F_need_cells)) (g_need_pattern : FnG P w K mg base 4 (He.ga K "need_pattern") (fd 4) p_need_pattern (fsp (ok w tb K tl) 1 F_need_pattern)) : FnG P w K mg base 5 (He.ga K "held") (fd 8) p_held (fsp (ok w tb K tl) 2 F_held) := fnG_of (k := 4) T.f_held.fu sc_held rfl fun cdv A outer s H E R hR C hr tk =>
      (jss_cons (js_ex (je_call C g_need_pattern t9_4 hR tk (hr.mono (by decide)) rfl T.f_need_pattern.m T.f_need_pattern.fu.kp T.f_need_pattern.b (ja_cons je_v ja_nil)))
      (jss_cons (js_ex (je_call C g_need_cells t9_5 hR tk (hr.mono (by decide)) rfl T.f_need_cells.m T.f_need_cells.fu.kp T.f_need_cells.b (ja_cons je_v (ja_cons je_v (ja_cons je_bl ja_nil)))))
      (jss_cons (js_ret (je_call C g_held_by t9_7 hR tk (hr.mono (by decide)) rfl T.f_held_by.m T.f_held_by.fu.kp T.f_held_by.b (ja_cons je_v (ja_cons je_v ja_nil))))
      jss_nil)))
def T10 : Nat → Fn := fun j => if j = 8 then F_held else T9 j
abbrev ir_saved : Ss :=
      (.cons (.ex (.f 4 (.cons (.v 0) .nil) [] [0]))
      (.cons (.ex (.f 5 (.cons (.v 0) (.cons (.v 1) (.cons (.c (.bl true)) .nil))) [] [0, 1, 2]))
      (.cons (.ret (.b .maxL (.cons (.lc [("many", 2)] [2] .range1 (.cons (.b .len (.cons (.v 1) .nil)) .nil) .nil (.b .len (.cons (.f 7 (.cons (.v 0) (.cons (.b (.slc false true) (.cons (.v 1) (.cons (.b .add (.cons (.v 2) (.cons (.c (.int 1)) .nil))) .nil))) .nil)) [] [0, 1]) .nil))) .nil)))
      .nil)))
theorem t10_7 : T10 7 = F_held_by := by simp [T0, T1, T2, T3, T4, T5, T6, T7, T8, T9, T10]
theorem t10_5 : T10 5 = F_need_cells := by simp [T0, T1, T2, T3, T4, T5, T6, T7, T8, T9, T10]
theorem t10_4 : T10 4 = F_need_pattern := by simp [T0, T1, T2, T3, T4, T5, T6, T7, T8, T9, T10]
def F_saved : Fn := fnOf ct.sub T10 n_saved.length ir_saved
theorem ok_saved (T : Txt K mg fd fi) (N : Blt mg) (g_held_by : FnG P w K mg base 1 (He.ga K "held_by") (fd 7) p_held_by (fsp (ok w tb K tl) 2 F_held_by)) (g_need_cells : FnG P w K mg base 3 (He.ga K "need_cells") (fd 5) p_need_cells (fsp (ok w tb K tl) 3 F_need_cells)) (g_need_pattern : FnG P w K mg base 4 (He.ga K "need_pattern") (fd 4) p_need_pattern (fsp (ok w tb K tl) 1 F_need_pattern)) : FnG P w K mg base 5 (He.ga K "saved") (fd 9) p_saved (fsp (ok w tb K tl) 2 F_saved) := fnG_of (k := 4) T.f_saved.fu sc_saved rfl fun cdv A outer s H E R hR C hr tk =>
      (jss_cons (js_ex (je_call C g_need_pattern t10_4 hR tk (hr.mono (by decide)) rfl T.f_need_pattern.m T.f_need_pattern.fu.kp T.f_need_pattern.b (ja_cons je_v ja_nil)))
      (jss_cons (js_ex (je_call C g_need_cells t10_5 hR tk (hr.mono (by decide)) rfl T.f_need_cells.m T.f_need_cells.fu.kp T.f_need_cells.b (ja_cons je_v (ja_cons je_v (ja_cons je_bl ja_nil)))))
      (jss_cons (js_ret (je_maxL C rfl N.max (ja_cons (lc_val C (ji_range1 rfl N.range (ja_cons (je_len rfl N.len (ja_cons je_v ja_nil)) ja_nil)) (fun _ _ _ _ _ C => (jg_name C)) (fun _ _ _ _ _ C => jts_nil) (fun _ _ _ _ _ C => (je_len rfl N.len (ja_cons (je_call C g_held_by t10_7 hR takes_wNo (hr.mono (by decide)) rfl T.f_held_by.m T.f_held_by.fu.kp T.f_held_by.b (ja_cons je_v (ja_cons (je_slc_ft je_v (je_add je_v je_int)) ja_nil))) ja_nil)))) ja_nil)))
      jss_nil)))
def T11 : Nat → Fn := fun j => if j = 9 then F_saved else T10 j
abbrev ir__law_begin : Ss :=
      (.cons (.ret (.lst (.cons (.or (.lc [("_law_cell", 1)] [1] .seq (.cons (.b (.slc false true) (.cons (.v 0) (.cons (.c (.int 63)) .nil))) .nil) .nil (.b .abs (.cons (.v 1) .nil))) (.lst (.cons (.c (.int 1)) .nil))) (.cons (.c (.int 0)) (.cons (.c (.int 1)) .nil)))))
      .nil)
def F__law_begin : Fn := fnOf ct.sub T11 n__law_begin.length ir__law_begin
theorem ok__law_begin (T : Txt K mg fd fi) (N : Blt mg)  : FnG P w K mg base 1 (He.ga K "_law_begin") (fd 10) p__law_begin (fsp (ok w tb K tl) 1 F__law_begin) := fnG_of (k := 0) T.f__law_begin.fu sc__law_begin rfl fun cdv A outer s H E R hR C hr tk =>
      (jss_cons (js_ret (je_lst (ja_cons (je_or (jb_or (lc_val C (ji_seq (je_slc_ft je_v je_int)) (fun _ _ _ _ _ C => (jg_name C)) (fun _ _ _ _ _ C => jts_nil) (fun _ _ _ _ _ C => (je_abs rfl N.abs (ja_cons je_v ja_nil)))) (jb_or1 (je_lst (ja_cons je_int ja_nil))))) (ja_cons je_int (ja_cons je_int ja_nil)))))
      jss_nil)
def T12 : Nat → Fn := fun j => if j = 10 then F__law_begin else T11 j
abbrev ir__law_pick : Ss :=
      (.cons (.ret (.b .idx (.cons (.v 1) (.cons (.f 11 (.cons (.v 0) (.cons (.b .len (.cons (.v 1) .nil)) .nil)) [] [0, 1]) .nil))))
      .nil)
theorem t12_11 : T12 11 = F__law_draw := by simp [T0, T1, T2, T3, T4, T5, T6, T7, T8, T9, T10, T11, T12]
def F__law_pick : Fn := fnOf ct.sub T12 n__law_pick.length ir__law_pick
theorem ok__law_pick (T : Txt K mg fd fi) (N : Blt mg) (g__law_draw : FnG P w K mg base 1 (He.ga K "_law_draw") (fd 11) p__law_draw (fsp (ok w tb K tl) 2 F__law_draw)) : FnG P w K mg base 2 (He.ga K "_law_pick") (fd 12) p__law_pick (fsp (ok w tb K tl) 2 F__law_pick) := fnG_of (k := 1) T.f__law_pick.fu sc__law_pick rfl fun cdv A outer s H E R hR C hr tk =>
      (jss_cons (js_ret (je_idx je_v (je_call C g__law_draw t12_11 hR tk (hr.mono (by decide)) rfl T.f__law_draw.m T.f__law_draw.fu.kp T.f__law_draw.b (ja_cons je_v (ja_cons (je_len rfl N.len (ja_cons je_v ja_nil)) ja_nil)))))
      jss_nil)
def T13 : Nat → Fn := fun j => if j = 12 then F__law_pick else T12 j
abbrev ir__law_mixed : Ss :=
      (.cons (.par [2, 3] (.cons (.b .list (.cons (.v 1) .nil)) (.cons (.lst .nil) .nil)))
      (.cons (.whl 1000000000 (.b .ne (.cons (.v 2) (.cons (.lst .nil) .nil))) (.cons (.ex (.mu .append 3 (.cons (.mu .pop1 2 (.cons (.f 11 (.cons (.v 0) (.cons (.b .len (.cons (.v 2) .nil)) .nil)) [] [0, 1]) .nil)) .nil)))
      .nil))
      (.cons (.ret (.v 3))
      .nil)))
theorem t13_11 : T13 11 = F__law_draw := by simp [T0, T1, T2, T3, T4, T5, T6, T7, T8, T9, T10, T11, T12, T13]
def F__law_mixed : Fn := fnOf ct.sub T13 n__law_mixed.length ir__law_mixed
theorem ok__law_mixed (T : Txt K mg fd fi) (N : Blt mg) (g__law_draw : FnG P w K mg base 1 (He.ga K "_law_draw") (fd 11) p__law_draw (fsp (ok w tb K tl) 2 F__law_draw)) : FnG P w K mg base 2 (He.ga K "_law_mixed") (fd 13) p__law_mixed (fsp (ok w tb K tl) 2 F__law_mixed) := fnG_of (k := 1) T.f__law_mixed.fu sc__law_mixed rfl fun cdv A outer s H E R hR C hr tk =>
      (jss_cons (js_par2 C (ja_cons (je_list C rfl N.list (ja_cons je_v ja_nil)) (ja_cons (je_lst ja_nil) ja_nil)))
      (jss_cons (js_while C (je_ne C je_v (je_lst ja_nil)) (jss_cons (js_ex (je_append (pv 3) (ja_cons (je_pop1 (pv 2) (ja_cons (je_call C g__law_draw t13_11 hR tk (hr.mono (by decide)) rfl T.f__law_draw.m T.f__law_draw.fu.kp T.f__law_draw.b (ja_cons je_v (ja_cons (je_len rfl N.len (ja_cons je_v ja_nil)) ja_nil))) ja_nil)) ja_nil)))
      jss_nil))
      (jss_cons (js_ret je_v)
      jss_nil)))
def T14 : Nat → Fn := fun j => if j = 13 then F__law_mixed else T13 j
abbrev ir__law_grid : Ss :=
      (.cons (.unp [3, 4] (.tup (.cons (.b .add (.cons (.c (.int 1)) (.cons (.f 11 (.cons (.v 0) (.cons (.v 1) .nil)) [] [0, 1]) .nil))) (.cons (.f 11 (.cons (.v 0) (.cons (.c (.int 5)) .nil)) [] [0, 1]) .nil))))
      (.cons (.ite (.b .eq (.cons (.v 4) (.cons (.c (.int 0)) .nil))) (.cons (.asg 5 (.lc [("_law_k", 7)] [7] .range1 (.cons (.b .add (.cons (.c (.int 1)) (.cons (.f 11 (.cons (.v 0) (.cons (.c (.int 4)) .nil)) [] [0, 1]) .nil))) .nil) .nil (.b .sub (.cons (.f 11 (.cons (.v 0) (.cons (.c (.int 9)) .nil)) [] [0, 1]) (.cons (.c (.int 4)) .nil)))))
      (.cons (.ret (.lc [("_law_cell", 6)] [6] .range1 (.cons (.v 3) .nil) .nil (.b .tuple (.cons (.lc [("_law_one", 8)] [8] .range1 (.cons (.v 3) .nil) (.cons (.b .inn (.cons (.b .sub (.cons (.v 8) (.cons (.v 6) .nil))) (.cons (.v 5) .nil))) .nil) (.v 8)) .nil))))
      .nil)) .nil)
      (.cons (.asg 2 (.b .idx (.cons (.lst (.cons (.c (.int 1)) (.cons (.c (.int 2)) (.cons (.c (.int 4)) (.cons (.b .add (.cons (.c (.int 1)) (.cons (.f 11 (.cons (.v 0) (.cons (.c (.int 7)) .nil)) [] [0, 1]) .nil))) .nil))))) (.cons (.b .sub (.cons (.v 4) (.cons (.c (.int 1)) .nil))) .nil))))
      (.cons (.ret (.lc [("_law_cell", 6)] [6] .range1 (.cons (.v 3) .nil) .nil (.b .tuple (.cons (.lc [("_law_one", 8)] [8] .range1 (.cons (.v 3) .nil) (.cons (.b .lt (.cons (.f 11 (.cons (.v 0) (.cons (.c (.int 8)) .nil)) [] [0, 1]) (.cons (.v 2) .nil))) .nil) (.v 8)) .nil))))
      .nil))))
theorem t14_11 : T14 11 = F__law_draw := by simp [T0, T1, T2, T3, T4, T5, T6, T7, T8, T9, T10, T11, T12, T13, T14]
def F__law_grid : Fn := fnOf ct.sub T14 n__law_grid.length ir__law_grid
theorem ok__law_grid (T : Txt K mg fd fi) (N : Blt mg) (g__law_draw : FnG P w K mg base 1 (He.ga K "_law_draw") (fd 11) p__law_draw (fsp (ok w tb K tl) 2 F__law_draw)) : FnG P w K mg base 2 (He.ga K "_law_grid") (fd 14) p__law_grid (fsp (ok w tb K tl) 2 F__law_grid) := fnG_of (k := 1) T.f__law_grid.fu sc__law_grid rfl fun cdv A outer s H E R hR C hr tk =>
      (jss_cons (js_unp C (jgs_cons C (jgs_cons C jgs_nil)) (je_tup (ja_cons (je_add je_int (je_call C g__law_draw t14_11 hR tk (hr.mono (by decide)) rfl T.f__law_draw.m T.f__law_draw.fu.kp T.f__law_draw.b (ja_cons je_v (ja_cons je_v ja_nil)))) (ja_cons (je_call C g__law_draw t14_11 hR tk (hr.mono (by decide)) rfl T.f__law_draw.m T.f__law_draw.fu.kp T.f__law_draw.b (ja_cons je_v (ja_cons je_int ja_nil))) ja_nil))))
      (jss_cons (js_if (je_eq C je_v je_int) (jss_cons (js_asg C (lc_val C (ji_range1 rfl N.range (ja_cons (je_add je_int (je_call C g__law_draw t14_11 hR tk (hr.mono (by decide)) rfl T.f__law_draw.m T.f__law_draw.fu.kp T.f__law_draw.b (ja_cons je_v (ja_cons je_int ja_nil)))) ja_nil)) (fun _ _ _ _ _ C => (jg_name C)) (fun _ _ _ _ _ C => jts_nil) (fun _ _ _ _ _ C => (je_sub (je_call C g__law_draw t14_11 hR takes_wNo (hr.mono (by decide)) rfl T.f__law_draw.m T.f__law_draw.fu.kp T.f__law_draw.b (ja_cons je_v (ja_cons je_int ja_nil))) je_int))))
      (jss_cons (js_ret (lc_val C (ji_range1 rfl N.range (ja_cons je_v ja_nil)) (fun _ _ _ _ _ C => (jg_name C)) (fun _ _ _ _ _ C => jts_nil) (fun _ _ _ _ _ C => (je_tuple rfl N.tuple (ja_cons (lc_val C (ji_range1 rfl N.range (ja_cons je_v ja_nil)) (fun _ _ _ _ _ C => (jg_name C)) (fun _ _ _ _ _ C => (jts_one (je_in C hR.w (je_sub je_v je_v) je_v))) (fun _ _ _ _ _ C => je_v)) ja_nil)))))
      jss_nil)) jss_nil)
      (jss_cons (js_asg C (je_idx (je_lst (ja_cons je_int (ja_cons je_int (ja_cons je_int (ja_cons (je_add je_int (je_call C g__law_draw t14_11 hR tk (hr.mono (by decide)) rfl T.f__law_draw.m T.f__law_draw.fu.kp T.f__law_draw.b (ja_cons je_v (ja_cons je_int ja_nil)))) ja_nil))))) (je_sub je_v je_int)))
      (jss_cons (js_ret (lc_val C (ji_range1 rfl N.range (ja_cons je_v ja_nil)) (fun _ _ _ _ _ C => (jg_name C)) (fun _ _ _ _ _ C => jts_nil) (fun _ _ _ _ _ C => (je_tuple rfl N.tuple (ja_cons (lc_val C (ji_range1 rfl N.range (ja_cons je_v ja_nil)) (fun _ _ _ _ _ C => (jg_name C)) (fun _ _ _ _ _ C => (jts_one (je_lt (je_call C g__law_draw t14_11 hR takes_wNo (hr.mono (by decide)) rfl T.f__law_draw.m T.f__law_draw.fu.kp T.f__law_draw.b (ja_cons je_v (ja_cons je_int ja_nil))) je_v))) (fun _ _ _ _ _ C => je_v)) ja_nil)))))
      jss_nil))))
def T15 : Nat → Fn := fun j => if j = 14 then F__law_grid else T14 j
abbrev ir__law_kept : Ss :=
      (.cons (.asg 2 (.lc [("_law_cell", 3)] [3] .range1 (.cons (.b .len (.cons (.v 0) .nil)) .nil) (.cons (.b .nin (.cons (.v 3) (.cons (.v 1) .nil))) .nil) (.v 3)))
      (.cons (.ret (.lc [("_law_cell", 3)] [3] .range1 (.cons (.b .len (.cons (.v 0) .nil)) .nil) (.cons (.and (.b .inn (.cons (.v 3) (.cons (.v 1) .nil))) (.b .ne (.cons (.lc [("_law_one", 4)] [4] .seq (.cons (.v 2) .nil) (.cons (.b .inn (.cons (.v 3) (.cons (.b .idx (.cons (.v 0) (.cons (.v 4) .nil))) .nil))) .nil) (.v 4)) (.cons (.lst .nil) .nil)))) .nil) (.v 3)))
      .nil))
def F__law_kept : Fn := fnOf ct.sub T15 n__law_kept.length ir__law_kept
theorem ok__law_kept (T : Txt K mg fd fi) (N : Blt mg)  : FnG P w K mg base 1 (He.ga K "_law_kept") (fd 15) p__law_kept (fsp (ok w tb K tl) 2 F__law_kept) := fnG_of (k := 0) T.f__law_kept.fu sc__law_kept rfl fun cdv A outer s H E R hR C hr tk =>
      (jss_cons (js_asg C (lc_val C (ji_range1 rfl N.range (ja_cons (je_len rfl N.len (ja_cons je_v ja_nil)) ja_nil)) (fun _ _ _ _ _ C => (jg_name C)) (fun _ _ _ _ _ C => (jts_one (je_nin C hR.w je_v je_v))) (fun _ _ _ _ _ C => je_v)))
      (jss_cons (js_ret (lc_val C (ji_range1 rfl N.range (ja_cons (je_len rfl N.len (ja_cons je_v ja_nil)) ja_nil)) (fun _ _ _ _ _ C => (jg_name C)) (fun _ _ _ _ _ C => (jts_one (je_and (jb_and (je_in C hR.w je_v je_v) (jb_and1 (je_ne C (lc_val C (ji_seq je_v) (fun _ _ _ _ _ C => (jg_name C)) (fun _ _ _ _ _ C => (jts_one (je_in C hR.w je_v (je_idx je_v je_v)))) (fun _ _ _ _ _ C => je_v)) (je_lst ja_nil))))))) (fun _ _ _ _ _ C => je_v)))
      jss_nil))
def T16 : Nat → Fn := fun j => if j = 15 then F__law_kept else T15 j
abbrev ir__law_most : Ss :=
      (.cons (.ret (.b .maxL (.cons (.lc [("_law_many", 2)] [2] .range2 (.cons (.c (.int 1)) (.cons (.b .add (.cons (.b .len (.cons (.v 1) .nil)) (.cons (.c (.int 1)) .nil))) .nil)) .nil (.b .len (.cons (.f 15 (.cons (.v 0) (.cons (.b (.slc false true) (.cons (.v 1) (.cons (.v 2) .nil))) .nil)) [] [0, 1]) .nil))) .nil)))
      .nil)
theorem t16_15 : T16 15 = F__law_kept := by simp [T0, T1, T2, T3, T4, T5, T6, T7, T8, T9, T10, T11, T12, T13, T14, T15, T16]
def F__law_most : Fn := fnOf ct.sub T16 n__law_most.length ir__law_most
theorem ok__law_most (T : Txt K mg fd fi) (N : Blt mg) (g__law_kept : FnG P w K mg base 1 (He.ga K "_law_kept") (fd 15) p__law_kept (fsp (ok w tb K tl) 2 F__law_kept)) : FnG P w K mg base 2 (He.ga K "_law_most") (fd 16) p__law_most (fsp (ok w tb K tl) 2 F__law_most) := fnG_of (k := 1) T.f__law_most.fu sc__law_most rfl fun cdv A outer s H E R hR C hr tk =>
      (jss_cons (js_ret (je_maxL C rfl N.max (ja_cons (lc_val C (ji_range2 rfl N.range (ja_cons je_int (ja_cons (je_add (je_len rfl N.len (ja_cons je_v ja_nil)) je_int) ja_nil))) (fun _ _ _ _ _ C => (jg_name C)) (fun _ _ _ _ _ C => jts_nil) (fun _ _ _ _ _ C => (je_len rfl N.len (ja_cons (je_call C g__law_kept t16_15 hR takes_wNo (hr.mono (by decide)) rfl T.f__law_kept.m T.f__law_kept.fu.kp T.f__law_kept.b (ja_cons je_v (ja_cons (je_slc_ft je_v je_v) ja_nil))) ja_nil)))) ja_nil)))
      jss_nil)
def T17 : Nat → Fn := fun j => if j = 16 then F__law_most else T16 j
abbrev ir__law_error : Ss :=
      (.cons (.asg 1 (.c .non))
      (.cons (.try_ (.cons (.ex (.cw 0 900))
      .nil) 0 (some 2) (.cons (.asg 1 (.v 2))
      .nil))
      (.cons (.ite (.b .isN (.cons (.v 1) .nil)) (.cons (.ret (.c .non))
      .nil) .nil)
      (.cons (.asg 3 (.lst (.cons (.tup (.cons (.c (.str "sweep")) (.cons (.b (.isx (.cls 3)) (.cons (.v 1) .nil)) .nil))) (.cons (.tup (.cons (.c (.str "order")) (.cons (.b (.isx (.cls 2)) (.cons (.v 1) .nil)) .nil))) .nil))))
      (.cons (.asg 3 (.b .add (.cons (.v 3) (.cons (.lst (.cons (.tup (.cons (.c (.str "cell")) (.cons (.b (.isx (.cls 1)) (.cons (.v 1) .nil)) .nil))) .nil)) .nil))))
      (.cons (.asg 4 (.lc [("_law_word", 5), ("_law_is_it", 6)] [5, 6] .seq (.cons (.v 3) .nil) (.cons (.v 6) .nil) (.v 5)))
      (.cons (.ite (.or (.b .ne (.cons (.b .len (.cons (.v 4) .nil)) (.cons (.c (.int 1)) .nil))) (.not (.b (.isx .ve) (.cons (.v 1) .nil)))) (.cons (.ret (.tup (.cons (.c (.str "other")) (.cons (.c .non) .nil))))
      .nil) .nil)
      (.cons (.ret (.tup (.cons (.b .idx (.cons (.v 4) (.cons (.c (.int 0)) .nil))) (.cons (.b (.att tbl_index) (.cons (.v 1) .nil)) .nil))))
      .nil))))))))
theorem uc__law_error (lam : Lam) : (withF T17 900 (cloF lam)) 900 = cloF lam := withF_eq
def F__law_error (lam : Lam) : Fn := fnOf ct.sub (withF T17 900 (cloF lam)) n__law_error.length ir__law_error
theorem ok__law_error (T : Txt K mg fd fi) (N : Blt mg)  : FnL P w K mg base 1 (He.ga K "_law_error") (fd 17) "_law_error" (defScope s__law_error) n__law_error "_law_work" (ok w tb K tl) F__law_error := fnL_of (k := 0) (Fs := fun lam => (withF T17 900 (cloF lam))) T.f__law_error.fu sc__law_error fun cdv A outer s H E R lam hR C hr tk act =>
      (jss_cons (js_asg C je_non)
      (jss_cons (js_try (c := 0) C (hR.xt T.xt) tk (congrFun hR.ca 0) rfl T.c_InplaceError (fun W pn xe tk po => have C := C.tr (pn := pn) po; (jss_cons (js_ex (je_cw act tk (uc__law_error lam)))
      jss_nil)) fun a pn => (jss_cons (js_asgN (C.nd) je_v)
      jss_nil))
      (jss_cons (js_if (je_isN je_v) (jss_cons (js_ret je_non)
      jss_nil) jss_nil)
      (jss_cons (js_asg C (je_lst (ja_cons (je_tup (ja_cons je_str (ja_cons (je_isx (t := (.cls 3)) (hR.xt T.xt) rfl N.isinstance je_v (jc_cls (k := 3) (congrFun hR.ca 3) T.c_InvalidSweep rfl)) ja_nil))) (ja_cons (je_tup (ja_cons je_str (ja_cons (je_isx (t := (.cls 2)) (hR.xt T.xt) rfl N.isinstance je_v (jc_cls (k := 2) (congrFun hR.ca 2) T.c_InvalidOrder rfl)) ja_nil))) ja_nil))))
      (jss_cons (js_asg C (je_add je_v (je_lst (ja_cons (je_tup (ja_cons je_str (ja_cons (je_isx (t := (.cls 1)) (hR.xt T.xt) rfl N.isinstance je_v (jc_cls (k := 1) (congrFun hR.ca 1) T.c_InvalidCell rfl)) ja_nil))) ja_nil))))
      (jss_cons (js_asgLc C (ji_seq je_v) (fun _ _ _ _ _ C => (jg_tup C (jgs_cons C (jgs_cons C jgs_nil)))) (fun _ _ _ _ _ C => (jts_one je_v)) (fun _ _ _ _ _ C => je_v))
      (jss_cons (js_if (je_or (jb_or (je_ne C (je_len rfl N.len (ja_cons je_v ja_nil)) je_int) (jb_or1 (je_not (je_isx (t := .ve) (hR.xt T.xt) rfl N.isinstance je_v (jc_ve N.ValueError rfl)))))) (jss_cons (js_ret (je_tup (ja_cons je_str (ja_cons je_non ja_nil))))
      jss_nil) jss_nil)
      (jss_cons (js_ret (je_tup (ja_cons (je_idx je_v je_int) (ja_cons (je_att (hR.xt T.xt) (by rw [hR.cf]; exact tok_index) je_v) ja_nil))))
      jss_nil))))))))
abbrev ir__law_wrong : Ss :=
      (.cons (.ite (.or (.not (.b (.isi [.list, .tuple] false) (.cons (.v 0) .nil))) (.not (.ch .le .le (.c (.int 1)) (.b .len (.cons (.v 0) .nil)) (.c (.int 10))))) (.cons (.ret (.c (.int 0)))
      .nil) .nil)
      (.cons (.for_ [1, 2] .enum (.cons (.v 0) .nil) (.cons (.ite (.not (.b (.isi [.tuple] true) (.cons (.v 2) .nil))) (.cons (.ret (.v 1))
      .nil) .nil)
      (.cons (.for_ [3, 4] .enum (.cons (.v 2) .nil) (.cons (.ite (.or (.not (.b (.isi [.int] true) (.cons (.v 4) .nil))) (.or (.b (.isi [.bool] true) (.cons (.v 4) .nil)) (.not (.ch .le .lt (.c (.int 0)) (.v 4) (.b .len (.cons (.v 0) .nil)))))) (.cons (.ret (.v 1))
      .nil) .nil)
      (.cons (.ite (.and (.b .gt (.cons (.v 3) (.cons (.c (.int 0)) .nil))) (.not (.b .lt (.cons (.b .idx (.cons (.v 2) (.cons (.b .sub (.cons (.v 3) (.cons (.c (.int 1)) .nil))) .nil))) (.cons (.v 4) .nil))))) (.cons (.ret (.v 1))
      .nil) .nil)
      .nil)))
      .nil)))
      (.cons (.ret (.c .non))
      .nil)))
def F__law_wrong : Fn := fnOf ct.sub T17 n__law_wrong.length ir__law_wrong
theorem ok__law_wrong (T : Txt K mg fd fi) (N : Blt mg)  : FnG P w K mg base 1 (He.ga K "_law_wrong") (fd 18) p__law_wrong (fsp (ok w tb K tl) 1 F__law_wrong) := fnG_of (k := 0) T.f__law_wrong.fu sc__law_wrong rfl fun cdv A outer s H E R hR C hr tk =>
      (jss_cons (js_if (je_or (jb_or (je_not (je_isiN rfl N.isinstance je_v (jtys_cons (jty_list rfl N.list) (jtys_cons (jty_tuple rfl N.tuple) jtys_nil)))) (jb_or1 (je_not (je_le_le je_int (je_len rfl N.len (ja_cons je_v ja_nil)) je_int))))) (jss_cons (js_ret je_int)
      jss_nil) jss_nil)
      (jss_cons (js_for C (ji_enumA rfl N.enumerate (ja_cons je_v ja_nil)) (jg_tup C (jgs_cons C (jgs_cons C jgs_nil))) (jss_cons (js_if (je_not (je_isi1 rfl N.isinstance je_v (jty_tuple rfl N.tuple))) (jss_cons (js_ret je_v)
      jss_nil) jss_nil)
      (jss_cons (js_for C (ji_enumA rfl N.enumerate (ja_cons je_v ja_nil)) (jg_tup C (jgs_cons C (jgs_cons C jgs_nil))) (jss_cons (js_if (je_or (jb_or (je_not (je_isi1 rfl N.isinstance je_v (jty_int rfl N.int))) (jb_or (je_isi1 rfl N.isinstance je_v (jty_bool rfl N.bool)) (jb_or1 (je_not (je_le_lt je_int je_v (je_len rfl N.len (ja_cons je_v ja_nil)))))))) (jss_cons (js_ret je_v)
      jss_nil) jss_nil)
      (jss_cons (js_if (je_and (jb_and (je_gt je_v je_int) (jb_and1 (je_not (je_lt (je_idx je_v (je_sub je_v je_int)) je_v))))) (jss_cons (js_ret je_v)
      jss_nil) jss_nil)
      jss_nil)))
      jss_nil)))
      (jss_cons (js_ret je_non)
      jss_nil)))
def T18 : Nat → Fn := fun j => if j = 18 then F__law_wrong else T17 j
abbrev ir__law_bent : Ss :=
      (.cons (.par [3, 4] (.cons (.f 11 (.cons (.v 0) (.cons (.c (.int 8)) .nil)) [] [0, 1]) (.cons (.b .list (.cons (.v 1) .nil)) .nil)))
      (.cons (.ite (.b .eq (.cons (.v 3) (.cons (.c (.int 0)) .nil))) (.cons (.ret (.f 12 (.cons (.v 0) (.cons (.lst (.cons (.c .non) (.cons (.c (.int 5)) (.cons (.c (.str "ab")) (.cons (.dd .nil) (.cons (.c (.bl true)) (.cons (.lst .nil) (.cons (.tup .nil) (.cons (.b .mul (.cons (.lst (.cons (.tup .nil) .nil)) (.cons (.c (.int 11)) .nil))) (.cons (.lst (.cons (.lst .nil) .nil)) (.cons (.lst (.cons (.c .non) .nil)) (.cons (.lst (.cons (.tup (.cons (.c (.int 0)) (.cons (.c (.int 0)) .nil))) .nil)) (.cons (.lst (.cons (.tup (.cons (.c (.int 1)) .nil)) .nil)) .nil))))))))))))) .nil)) [] [0, 1]))
      .nil) .nil)
      (.cons (.asg 2 (.f 11 (.cons (.v 0) (.cons (.b .len (.cons (.v 4) .nil)) .nil)) [] [0, 1]))
      (.cons (.ite (.b .eq (.cons (.v 3) (.cons (.c (.int 1)) .nil))) (.cons (.put 4 (.v 2) (.b .list (.cons (.b .idx (.cons (.v 4) (.cons (.v 2) .nil))) .nil)))
      .nil) (.cons (.ite (.b .eq (.cons (.v 3) (.cons (.c (.int 2)) .nil))) (.cons (.put 4 (.v 2) (.b .rev (.cons (.b .idx (.cons (.v 4) (.cons (.v 2) .nil))) .nil)))
      .nil) (.cons (.ite (.b .eq (.cons (.v 3) (.cons (.c (.int 3)) .nil))) (.cons (.put 4 (.v 2) (.b .add (.cons (.b .idx (.cons (.v 4) (.cons (.v 2) .nil))) (.cons (.b (.slc true false) (.cons (.b .idx (.cons (.v 4) (.cons (.v 2) .nil))) (.cons (.b .neg (.cons (.c (.int 1)) .nil)) .nil))) .nil))))
      .nil) (.cons (.ite (.b .eq (.cons (.v 3) (.cons (.c (.int 4)) .nil))) (.cons (.put 4 (.v 2) (.b .add (.cons (.b .idx (.cons (.v 4) (.cons (.v 2) .nil))) (.cons (.tup (.cons (.f 12 (.cons (.v 0) (.cons (.lst (.cons (.b .len (.cons (.v 4) .nil)) (.cons (.b .neg (.cons (.c (.int 1)) .nil)) (.cons (.c (.bl true)) (.cons (.c .non) (.cons (.c (.str "0")) (.cons (.tup (.cons (.c (.int 0)) .nil)) (.cons (.lst .nil) .nil)))))))) .nil)) [] [0, 1]) .nil)) .nil))))
      .nil) (.cons (.ite (.b .eq (.cons (.v 3) (.cons (.c (.int 5)) .nil))) (.cons (.ex (.mu .pop1 4 (.cons (.v 2) .nil)))
      .nil) (.cons (.ite (.b .eq (.cons (.v 3) (.cons (.c (.int 6)) .nil))) (.cons (.asg 4 (.b .add (.cons (.v 4) (.cons (.lst (.cons (.f 12 (.cons (.v 0) (.cons (.lst (.cons (.tup .nil) (.cons (.tup (.cons (.b .len (.cons (.v 4) .nil)) .nil)) (.cons (.c .non) (.cons (.c (.int 5)) (.cons (.tup (.cons (.c (.int 0)) .nil)) .nil)))))) .nil)) [] [0, 1]) .nil)) .nil))))
      .nil) .nil)
      .nil))
      .nil))
      .nil))
      .nil))
      .nil))
      (.cons (.ret (.v 4))
      .nil)))))
theorem t18_11 : T18 11 = F__law_draw := by simp [T0, T1, T2, T3, T4, T5, T6, T7, T8, T9, T10, T11, T12, T13, T14, T15, T16, T17, T18]
theorem t18_12 : T18 12 = F__law_pick := by simp [T0, T1, T2, T3, T4, T5, T6, T7, T8, T9, T10, T11, T12, T13, T14, T15, T16, T17, T18]
def F__law_bent : Fn := fnOf ct.sub T18 n__law_bent.length ir__law_bent
theorem ok__law_bent (T : Txt K mg fd fi) (N : Blt mg) (g__law_draw : FnG P w K mg base 1 (He.ga K "_law_draw") (fd 11) p__law_draw (fsp (ok w tb K tl) 2 F__law_draw)) (g__law_pick : FnG P w K mg base 2 (He.ga K "_law_pick") (fd 12) p__law_pick (fsp (ok w tb K tl) 2 F__law_pick)) : FnG P w K mg base 3 (He.ga K "_law_bent") (fd 19) p__law_bent (fsp (ok w tb K tl) 2 F__law_bent) := fnG_of (k := 2) T.f__law_bent.fu sc__law_bent rfl fun cdv A outer s H E R hR C hr tk =>
      (jss_cons (js_par2 C (ja_cons (je_call C g__law_draw t18_11 hR tk (hr.mono (by decide)) rfl T.f__law_draw.m T.f__law_draw.fu.kp T.f__law_draw.b (ja_cons je_v (ja_cons je_int ja_nil))) (ja_cons (je_list C rfl N.list (ja_cons je_v ja_nil)) ja_nil)))
      (jss_cons (js_if (je_eq C je_v je_int) (jss_cons (js_ret (je_call C g__law_pick t18_12 hR tk (hr.mono (by decide)) rfl T.f__law_pick.m T.f__law_pick.fu.kp T.f__law_pick.b (ja_cons je_v (ja_cons (je_lst (ja_cons je_non (ja_cons je_int (ja_cons je_str (ja_cons je_dd0 (ja_cons je_bl (ja_cons (je_lst ja_nil) (ja_cons (je_tup ja_nil) (ja_cons (je_mul (je_lst (ja_cons (je_tup ja_nil) ja_nil)) je_int) (ja_cons (je_lst (ja_cons (je_lst ja_nil) ja_nil)) (ja_cons (je_lst (ja_cons je_non ja_nil)) (ja_cons (je_lst (ja_cons (je_tup (ja_cons je_int (ja_cons je_int ja_nil))) ja_nil)) (ja_cons (je_lst (ja_cons (je_tup (ja_cons je_int ja_nil)) ja_nil)) ja_nil))))))))))))) ja_nil))))
      jss_nil) jss_nil)
      (jss_cons (js_asg C (je_call C g__law_draw t18_11 hR tk (hr.mono (by decide)) rfl T.f__law_draw.m T.f__law_draw.fu.kp T.f__law_draw.b (ja_cons je_v (ja_cons (je_len rfl N.len (ja_cons je_v ja_nil)) ja_nil))))
      (jss_cons (js_if (je_eq C je_v je_int) (jss_cons (js_put (pv 4) je_v (je_list C rfl N.list (ja_cons (je_idx je_v je_v) ja_nil)))
      jss_nil) (jss_cons (js_if (je_eq C je_v je_int) (jss_cons (js_put (pv 4) je_v (je_rv (je_idx je_v je_v)))
      jss_nil) (jss_cons (js_if (je_eq C je_v je_int) (jss_cons (js_put (pv 4) je_v (je_add (je_idx je_v je_v) (je_slc_tf (je_idx je_v je_v) (je_neg je_int))))
      jss_nil) (jss_cons (js_if (je_eq C je_v je_int) (jss_cons (js_put (pv 4) je_v (je_add (je_idx je_v je_v) (je_tup (ja_cons (je_call C g__law_pick t18_12 hR tk (hr.mono (by decide)) rfl T.f__law_pick.m T.f__law_pick.fu.kp T.f__law_pick.b (ja_cons je_v (ja_cons (je_lst (ja_cons (je_len rfl N.len (ja_cons je_v ja_nil)) (ja_cons (je_neg je_int) (ja_cons je_bl (ja_cons je_non (ja_cons je_str (ja_cons (je_tup (ja_cons je_int ja_nil)) (ja_cons (je_lst ja_nil) ja_nil)))))))) ja_nil))) ja_nil))))
      jss_nil) (jss_cons (js_if (je_eq C je_v je_int) (jss_cons (js_ex (je_pop1 (pv 4) (ja_cons je_v ja_nil)))
      jss_nil) (jss_cons (js_if (je_eq C je_v je_int) (jss_cons (js_asg C (je_add je_v (je_lst (ja_cons (je_call C g__law_pick t18_12 hR tk (hr.mono (by decide)) rfl T.f__law_pick.m T.f__law_pick.fu.kp T.f__law_pick.b (ja_cons je_v (ja_cons (je_lst (ja_cons (je_tup ja_nil) (ja_cons (je_tup (ja_cons (je_len rfl N.len (ja_cons je_v ja_nil)) ja_nil)) (ja_cons je_non (ja_cons je_int (ja_cons (je_tup (ja_cons je_int ja_nil)) ja_nil)))))) ja_nil))) ja_nil))))
      jss_nil) jss_nil)
      jss_nil))
      jss_nil))
      jss_nil))
      jss_nil))
      jss_nil))
      (jss_cons (js_ret je_v)
      jss_nil)))))
def T19 : Nat → Fn := fun j => if j = 19 then F__law_bent else T18 j
def caps__law_offsets_right : List (List Nat) := [[5, 7], [4, 5]]
abbrev la__law_offsets_right_0 : Arguments × Expr × Scope := lamAt (kidE (kidSE (kidB (defBody s__law_offsets_right) 8)) 1)
abbrev lb__law_offsets_right_0 : E := (.f 6 (.cons (.v 7) (.cons (.v 5) .nil)) [] [0, 1])
theorem ls__law_offsets_right_0 : LamS (defScope s__law_offsets_right) la__law_offsets_right_0.2.2 := lamS_by (by decide +kernel)
abbrev la__law_offsets_right_1 : Arguments × Expr × Scope := lamAt (kidE (kidSE (kidB (defBody s__law_offsets_right) 7)) 0)
abbrev lb__law_offsets_right_1 : E := (.f 6 (.cons (.v 4) (.cons (.v 5) .nil)) [] [0, 1])
theorem ls__law_offsets_right_1 : LamS (defScope s__law_offsets_right) la__law_offsets_right_1.2.2 := lamS_by (by decide +kernel)
abbrev la__law_offsets_right : LamL := [la__law_offsets_right_0, la__law_offsets_right_1]
def lam__law_offsets_right : Lam := fun k => match k with | 0 => lamOf ct.sub T19 n__law_offsets_right.length [5, 7] lb__law_offsets_right_0 | 1 => lamOf ct.sub T19 n__law_offsets_right.length [4, 5] lb__law_offsets_right_1 | _ => fun _ _ => .ret .no
abbrev ir__law_offsets_right : Ss :=
      (.cons (.unp [7, 8] (.tup (.cons (.b .add (.cons (.c (.int 1)) (.cons (.f 11 (.cons (.v 0) (.cons (.c (.int 10)) .nil)) [] [0, 1]) .nil))) (.cons (.lc [("_law_k", 9)] [9] .range1 (.cons (.f 11 (.cons (.v 0) (.cons (.c (.int 6)) .nil)) [] [0, 1]) .nil) .nil (.b .sub (.cons (.f 11 (.cons (.v 0) (.cons (.c (.int 25)) .nil)) [] [0, 1]) (.cons (.c (.int 12)) .nil)))) .nil))))
      (.cons (.asg 1 (.lst .nil))
      (.cons (.for_ [2] .range1 (.cons (.v 7) .nil) (.cons (.ex (.mu .append 1 (.cons (.b .tuple (.cons (.b .sorted (.cons (.b .set (.cons (.lc [("_law_one", 11)] [11] .seq (.cons (.v 8) .nil) (.cons (.ch .le .lt (.c (.int 0)) (.b .add (.cons (.v 2) (.cons (.v 11) .nil))) (.v 7)) .nil) (.b .add (.cons (.v 2) (.cons (.v 11) .nil)))) .nil)) .nil)) .nil)) .nil)))
      .nil))
      (.cons (.asg 3 (.f 6 (.cons (.v 7) (.cons (.v 8) .nil)) [] [0, 1]))
      (.cons (.ite (.or (.b .ne (.cons (.b .repr (.cons (.v 3) .nil)) (.cons (.b .repr (.cons (.v 1) .nil)) .nil))) (.b .ne (.cons (.f 6 (.cons (.b .tuple (.cons (.v 8) .nil)) (.cons (.v 7) .nil)) ["steps", "cells"] [1, 0]) (.cons (.v 1) .nil)))) (.cons (.ret (.c (.bl false)))
      .nil) .nil)
      (.cons (.asg 4 (.f 12 (.cons (.v 0) (.cons (.lst (.cons (.c (.int 0)) (.cons (.c (.int 11)) (.cons (.b .neg (.cons (.c (.int 1)) .nil)) (.cons (.c .non) (.cons (.c (.bl true)) (.cons (.c (.str "3")) (.cons (.lst (.cons (.c (.int 3)) .nil)) .nil)))))))) .nil)) [] [0, 1]))
      (.cons (.asg 5 (.f 12 (.cons (.v 0) (.cons (.lst (.cons (.c .non) (.cons (.c (.int 5)) (.cons (.c (.str "1")) (.cons (.lst (.cons (.c (.bl true)) .nil)) (.cons (.lst (.cons (.c .non) .nil)) (.cons (.dd .nil) (.cons (.lst (.cons (.c (.str "1")) .nil)) .nil)))))))) .nil)) [] [0, 1]))
      (.cons (.asg 6 (.lst (.cons (.lam 1) .nil)))
      (.cons (.ex (.mu .append 6 (.cons (.lam 0) .nil)))
      (.cons (.ret (.b .eq (.cons (.lc [("_law_work", 10)] [10] .seq (.cons (.v 6) .nil) .nil (.fw 17 (.v 10) caps__law_offsets_right)) (.cons (.lst (.cons (.tup (.cons (.c (.str "sweep")) (.cons (.c (.int 0)) .nil))) (.cons (.tup (.cons (.c (.str "sweep")) (.cons (.c (.int 1)) .nil))) .nil))) .nil))))
      .nil))))))))))
theorem t19_11 : T19 11 = F__law_draw := by simp [T0, T1, T2, T3, T4, T5, T6, T7, T8, T9, T10, T11, T12, T13, T14, T15, T16, T17, T18, T19]
theorem t19_12 : T19 12 = F__law_pick := by simp [T0, T1, T2, T3, T4, T5, T6, T7, T8, T9, T10, T11, T12, T13, T14, T15, T16, T17, T18, T19]
theorem t19_6 : T19 6 = F_offsets := by simp [T0, T1, T2, T3, T4, T5, T6, T7, T8, T9, T10, T11, T12, T13, T14, T15, T16, T17, T18, T19]
theorem u__law_offsets_right_11 : (withF T19 17 (F__law_error lam__law_offsets_right)) 11 = F__law_draw := ((withF_ne (by decide)).trans t19_11)
theorem u__law_offsets_right_12 : (withF T19 17 (F__law_error lam__law_offsets_right)) 12 = F__law_pick := ((withF_ne (by decide)).trans t19_12)
theorem u__law_offsets_right_6 : (withF T19 17 (F__law_error lam__law_offsets_right)) 6 = F_offsets := ((withF_ne (by decide)).trans t19_6)
theorem uw__law_offsets_right_17 : (withF T19 17 (F__law_error lam__law_offsets_right)) 17 = F__law_error lam__law_offsets_right := withF_eq
def F__law_offsets_right : Fn := fnC (fnOf ct.sub (withF T19 17 (F__law_error lam__law_offsets_right)) n__law_offsets_right.length ir__law_offsets_right)
theorem ok__law_offsets_right (T : Txt K mg fd fi) (N : Blt mg) (o : CodT base mg tb "_law_offsets_right" (fd 20)) (g__law_draw : FnG P w K mg base 1 (He.ga K "_law_draw") (fd 11) p__law_draw (fsp (ok w tb K tl) 2 F__law_draw)) (l__law_error : FnL P w K mg base 1 (He.ga K "_law_error") (fd 17) "_law_error" (defScope s__law_error) n__law_error "_law_work" (ok w tb K tl) F__law_error) (g__law_pick : FnG P w K mg base 2 (He.ga K "_law_pick") (fd 12) p__law_pick (fsp (ok w tb K tl) 2 F__law_pick)) (g_offsets : FnG P w K mg base 3 (He.ga K "offsets") (fd 6) p_offsets (fsp (ok w tb K tl) 2 F_offsets)) : FnG P w K mg base 6 (He.ga K "_law_offsets_right") (fd 20) p__law_offsets_right (fsp (ok w tb K tl) 1 F__law_offsets_right) := fnG_own (k := 5) (ls := la__law_offsets_right) T.f__law_offsets_right.fu sc__law_offsets_right rfl o (fun _ _ => OkR.sim) (fun _ h => h.tb) fun cdv A outer s H E R hR O C hr tk =>
      have HL : ∀ kk p, la__law_offsets_right[kk]? = some p → LamI (ok w tb K tl) (cxOf (L2.CX P w) P w K mg base n__law_offsets_right "_law_offsets_right" (defScope s__law_offsets_right) (He.ga K "_law_offsets_right") cdv A outer s H E) 3 p (caps__law_offsets_right.getD kk []) (lam__law_offsets_right kk) := fun kk p e => match kk, e with
        | 0, rfl => ⟨ls__law_offsets_right_0, fun _ _ _ _ _ => rfl, ct.sub, T19, lb__law_offsets_right_0, fun _ => rfl, fun A outer s H E f c' R hR C hr tk => (je_call C g_offsets t19_6 hR tk (hr.mono (by decide)) rfl T.f_offsets.m T.f_offsets.fu.kp T.f_offsets.b (ja_cons je_v (ja_cons je_v ja_nil)))⟩
        | 1, rfl => ⟨ls__law_offsets_right_1, fun _ _ _ _ _ => rfl, ct.sub, T19, lb__law_offsets_right_1, fun _ => rfl, fun A outer s H E f c' R hR C hr tk => (je_call C g_offsets t19_6 hR tk (hr.mono (by decide)) rfl T.f_offsets.m T.f_offsets.fu.kp T.f_offsets.b (ja_cons je_v (ja_cons je_v ja_nil)))⟩
        | _ + 2, e => (nomatch e)
      (jss_cons (js_unp C (jgs_cons C (jgs_cons C jgs_nil)) (je_tup (ja_cons (je_add je_int (je_call C g__law_draw u__law_offsets_right_11 hR tk (hr.mono (by decide)) rfl T.f__law_draw.m T.f__law_draw.fu.kp T.f__law_draw.b (ja_cons je_v (ja_cons je_int ja_nil)))) (ja_cons (lc_val C (ji_range1 rfl N.range (ja_cons (je_call C g__law_draw u__law_offsets_right_11 hR tk (hr.mono (by decide)) rfl T.f__law_draw.m T.f__law_draw.fu.kp T.f__law_draw.b (ja_cons je_v (ja_cons je_int ja_nil))) ja_nil)) (fun _ _ _ _ _ C => (jg_name C)) (fun _ _ _ _ _ C => jts_nil) (fun _ _ _ _ _ C => (je_sub (je_call C g__law_draw u__law_offsets_right_11 hR takes_wNo (hr.mono (by decide)) rfl T.f__law_draw.m T.f__law_draw.fu.kp T.f__law_draw.b (ja_cons je_v (ja_cons je_int ja_nil))) je_int))) ja_nil))))
      (jss_cons (js_asg C (je_lst ja_nil))
      (jss_cons (js_for C (ji_range1 rfl N.range (ja_cons je_v ja_nil)) (jg_name C) (jss_cons (js_ex (je_append (pv 1) (ja_cons (je_tuple rfl N.tuple (ja_cons (je_sorted C hR.w rfl N.sorted (ja_cons (je_set C hR.w rfl N.set (ja_cons (lc_val C (ji_seq je_v) (fun _ _ _ _ _ C => (jg_name C)) (fun _ _ _ _ _ C => (jts_one (je_le_lt je_int (je_add je_v je_v) je_v))) (fun _ _ _ _ _ C => (je_add je_v je_v))) ja_nil)) ja_nil)) ja_nil)) ja_nil)))
      jss_nil))
      (jss_cons (js_asg C (je_call C g_offsets u__law_offsets_right_6 hR tk (hr.mono (by decide)) rfl T.f_offsets.m T.f_offsets.fu.kp T.f_offsets.b (ja_cons je_v (ja_cons je_v ja_nil))))
      (jss_cons (js_if (je_or (jb_or (je_ne C (je_repr C rfl N.repr (ja_cons je_v ja_nil)) (je_repr C rfl N.repr (ja_cons je_v ja_nil))) (jb_or1 (je_ne C (je_callK C g_offsets u__law_offsets_right_6 hR tk (hr.mono (by decide)) rfl T.f_offsets.m T.f_offsets.fu.kp (bk_offsets_0_steps_cells T) (jw_cons (je_tuple rfl N.tuple (ja_cons je_v ja_nil)) (jw_cons je_v jw_nil))) je_v)))) (jss_cons (js_ret je_bl)
      jss_nil) jss_nil)
      (jss_cons (js_asg C (je_call C g__law_pick u__law_offsets_right_12 hR tk (hr.mono (by decide)) rfl T.f__law_pick.m T.f__law_pick.fu.kp T.f__law_pick.b (ja_cons je_v (ja_cons (je_lst (ja_cons je_int (ja_cons je_int (ja_cons (je_neg je_int) (ja_cons je_non (ja_cons je_bl (ja_cons je_str (ja_cons (je_lst (ja_cons je_int ja_nil)) ja_nil)))))))) ja_nil))))
      (jss_cons (js_asg C (je_call C g__law_pick u__law_offsets_right_12 hR tk (hr.mono (by decide)) rfl T.f__law_pick.m T.f__law_pick.fu.kp T.f__law_pick.b (ja_cons je_v (ja_cons (je_lst (ja_cons je_non (ja_cons je_int (ja_cons je_str (ja_cons (je_lst (ja_cons je_bl ja_nil)) (ja_cons (je_lst (ja_cons je_non ja_nil)) (ja_cons je_dd0 (ja_cons (je_lst (ja_cons je_str ja_nil)) ja_nil)))))))) ja_nil))))
      (jss_cons (js_asg C (je_lst (ja_cons (je_lam O ls__law_offsets_right_1) ja_nil)))
      (jss_cons (js_ex (je_append (pv 6) (ja_cons (je_lam O ls__law_offsets_right_0) ja_nil)))
      (jss_cons (js_ret (je_eq C (je_lcfw C (l__law_error.mono (k := 5) (by decide)) hR (fun _ _ => OkR.sim) uw__law_offsets_right_17 (hr.mono (by decide)) (by decide) T.f__law_error.m T.f__law_error.fu.kp T.f__law_error.b O HL (ji_seq je_v) (fun _ _ _ _ _ C => (jg_name C)) (fun _ _ _ _ _ C => jts_nil) (fun _ _ _ _ _ C => je_v) (dis := caps_dis (by decide))) (je_lst (ja_cons (je_tup (ja_cons je_str (ja_cons je_int ja_nil))) (ja_cons (je_tup (ja_cons je_str (ja_cons je_int ja_nil))) ja_nil)))))
      jss_nil))))))))))
def T20 : Nat → Fn := fun j => if j = 20 then F__law_offsets_right else T19 j
def caps__law_refused : List (List Nat) := [[1], [1, 2], [1, 2], [2, 3], [2, 3]]
abbrev la__law_refused_0 : Arguments × Expr × Scope := lamAt (kidE (kidSE (kidB (defBody s__law_refused) 8)) 1)
abbrev lb__law_refused_0 : E := (.f 9 (.cons (.v 1) (.cons (.b .listR (.cons (.b .sub (.cons (.b .len (.cons (.v 1) .nil)) (.cons (.c (.int 1)) .nil))) .nil)) .nil)) [] [0, 1])
theorem ls__law_refused_0 : LamS (defScope s__law_refused) la__law_refused_0.2.2 := lamS_by (by decide +kernel)
abbrev la__law_refused_1 : Arguments × Expr × Scope := lamAt (kidE (kidSE (kidB (defBody s__law_refused) 7)) 1)
abbrev lb__law_refused_1 : E := (.f 9 (.cons (.v 1) (.cons (.v 2) .nil)) [] [0, 1])
theorem ls__law_refused_1 : LamS (defScope s__law_refused) la__law_refused_1.2.2 := lamS_by (by decide +kernel)
abbrev la__law_refused_2 : Arguments × Expr × Scope := lamAt (kidE (kidSE (kidB (defBody s__law_refused) 6)) 0)
abbrev lb__law_refused_2 : E := (.f 8 (.cons (.v 1) (.cons (.v 2) .nil)) [] [0, 1])
theorem ls__law_refused_2 : LamS (defScope s__law_refused) la__law_refused_2.2.2 := lamS_by (by decide +kernel)
abbrev la__law_refused_3 : Arguments × Expr × Scope := lamAt (kidE (kidSE (kidB (defBody s__law_refused) 4)) 1)
abbrev lb__law_refused_3 : E := (.f 9 (.cons (.v 3) (.cons (.v 2) .nil)) [] [0, 1])
theorem ls__law_refused_3 : LamS (defScope s__law_refused) la__law_refused_3.2.2 := lamS_by (by decide +kernel)
abbrev la__law_refused_4 : Arguments × Expr × Scope := lamAt (kidE (kidSE (kidB (defBody s__law_refused) 3)) 0)
abbrev lb__law_refused_4 : E := (.f 8 (.cons (.v 3) (.cons (.v 2) .nil)) [] [0, 1])
theorem ls__law_refused_4 : LamS (defScope s__law_refused) la__law_refused_4.2.2 := lamS_by (by decide +kernel)
abbrev la__law_refused : LamL := [la__law_refused_0, la__law_refused_1, la__law_refused_2, la__law_refused_3, la__law_refused_4]
def lam__law_refused : Lam := fun k => match k with | 0 => lamOf ct.sub T20 n__law_refused.length [1] lb__law_refused_0 | 1 => lamOf ct.sub T20 n__law_refused.length [1, 2] lb__law_refused_1 | 2 => lamOf ct.sub T20 n__law_refused.length [1, 2] lb__law_refused_2 | 3 => lamOf ct.sub T20 n__law_refused.length [2, 3] lb__law_refused_3 | 4 => lamOf ct.sub T20 n__law_refused.length [2, 3] lb__law_refused_4 | _ => fun _ _ => .ret .no
abbrev ir__law_refused : Ss :=
      (.cons (.asg 2 (.f 12 (.cons (.v 0) (.cons (.lst (.cons (.c .non) (.cons (.c (.int 5)) (.cons (.dd .nil) (.cons (.lst (.cons (.c (.int 0)) (.cons (.c (.int 0)) .nil))) (.cons (.lst (.cons (.b .neg (.cons (.c (.int 1)) .nil)) .nil)) (.cons (.lst (.cons (.b .len (.cons (.v 1) .nil)) .nil)) (.cons (.lst (.cons (.c (.bl true)) .nil)) (.cons (.lst (.cons (.c (.str "0")) .nil)) (.cons (.lst (.cons (.c .non) .nil)) (.cons (.lst (.cons (.lst .nil) .nil)) .nil))))))))))) .nil)) [] [0, 1]))
      (.cons (.asg 3 (.f 19 (.cons (.v 0) (.cons (.v 1) .nil)) [] [0, 1]))
      (.cons (.asg 4 (.f 18 (.cons (.v 3) .nil) [] [0]))
      (.cons (.asg 5 (.lst (.cons (.lam 4) .nil)))
      (.cons (.ex (.mu .append 5 (.cons (.lam 3) .nil)))
      (.cons (.ite (.and (.b .notN (.cons (.v 4) .nil)) (.b .ne (.cons (.lc [("_law_work", 6)] [6] .seq (.cons (.v 5) .nil) .nil (.fw 17 (.v 6) caps__law_refused)) (.cons (.b .mul (.cons (.lst (.cons (.tup (.cons (.c (.str "sweep")) (.cons (.v 4) .nil))) .nil)) (.cons (.c (.int 2)) .nil))) .nil)))) (.cons (.ret (.c (.bl false)))
      .nil) .nil)
      (.cons (.asg 5 (.lst (.cons (.lam 2) .nil)))
      (.cons (.ex (.mu .append 5 (.cons (.lam 1) .nil)))
      (.cons (.ex (.mu .append 5 (.cons (.lam 0) .nil)))
      (.cons (.ret (.b .eq (.cons (.lc [("_law_work", 6)] [6] .seq (.cons (.v 5) .nil) .nil (.fw 17 (.v 6) caps__law_refused)) (.cons (.b .mul (.cons (.lst (.cons (.tup (.cons (.c (.str "order")) (.cons (.c (.int 0)) .nil))) .nil)) (.cons (.c (.int 3)) .nil))) .nil))))
      .nil))))))))))
theorem t20_19 : T20 19 = F__law_bent := by simp [T0, T1, T2, T3, T4, T5, T6, T7, T8, T9, T10, T11, T12, T13, T14, T15, T16, T17, T18, T19, T20]
theorem t20_12 : T20 12 = F__law_pick := by simp [T0, T1, T2, T3, T4, T5, T6, T7, T8, T9, T10, T11, T12, T13, T14, T15, T16, T17, T18, T19, T20]
theorem t20_18 : T20 18 = F__law_wrong := by simp [T0, T1, T2, T3, T4, T5, T6, T7, T8, T9, T10, T11, T12, T13, T14, T15, T16, T17, T18, T19, T20]
theorem t20_8 : T20 8 = F_held := by simp [T0, T1, T2, T3, T4, T5, T6, T7, T8, T9, T10, T11, T12, T13, T14, T15, T16, T17, T18, T19, T20]
theorem t20_9 : T20 9 = F_saved := by simp [T0, T1, T2, T3, T4, T5, T6, T7, T8, T9, T10, T11, T12, T13, T14, T15, T16, T17, T18, T19, T20]
theorem u__law_refused_19 : (withF T20 17 (F__law_error lam__law_refused)) 19 = F__law_bent := ((withF_ne (by decide)).trans t20_19)
theorem u__law_refused_12 : (withF T20 17 (F__law_error lam__law_refused)) 12 = F__law_pick := ((withF_ne (by decide)).trans t20_12)
theorem u__law_refused_18 : (withF T20 17 (F__law_error lam__law_refused)) 18 = F__law_wrong := ((withF_ne (by decide)).trans t20_18)
theorem uw__law_refused_17 : (withF T20 17 (F__law_error lam__law_refused)) 17 = F__law_error lam__law_refused := withF_eq
def F__law_refused : Fn := fnC (fnOf ct.sub (withF T20 17 (F__law_error lam__law_refused)) n__law_refused.length ir__law_refused)
theorem ok__law_refused (T : Txt K mg fd fi) (N : Blt mg) (o : CodT base mg tb "_law_refused" (fd 21)) (g__law_bent : FnG P w K mg base 3 (He.ga K "_law_bent") (fd 19) p__law_bent (fsp (ok w tb K tl) 2 F__law_bent)) (l__law_error : FnL P w K mg base 1 (He.ga K "_law_error") (fd 17) "_law_error" (defScope s__law_error) n__law_error "_law_work" (ok w tb K tl) F__law_error) (g__law_pick : FnG P w K mg base 2 (He.ga K "_law_pick") (fd 12) p__law_pick (fsp (ok w tb K tl) 2 F__law_pick)) (g__law_wrong : FnG P w K mg base 1 (He.ga K "_law_wrong") (fd 18) p__law_wrong (fsp (ok w tb K tl) 1 F__law_wrong)) (g_held : FnG P w K mg base 5 (He.ga K "held") (fd 8) p_held (fsp (ok w tb K tl) 2 F_held)) (g_saved : FnG P w K mg base 5 (He.ga K "saved") (fd 9) p_saved (fsp (ok w tb K tl) 2 F_saved)) : FnG P w K mg base 8 (He.ga K "_law_refused") (fd 21) p__law_refused (fsp (ok w tb K tl) 2 F__law_refused) := fnG_own (k := 7) (ls := la__law_refused) T.f__law_refused.fu sc__law_refused rfl o (fun _ _ => OkR.sim) (fun _ h => h.tb) fun cdv A outer s H E R hR O C hr tk =>
      have HL : ∀ kk p, la__law_refused[kk]? = some p → LamI (ok w tb K tl) (cxOf (L2.CX P w) P w K mg base n__law_refused "_law_refused" (defScope s__law_refused) (He.ga K "_law_refused") cdv A outer s H E) 5 p (caps__law_refused.getD kk []) (lam__law_refused kk) := fun kk p e => match kk, e with
        | 0, rfl => ⟨ls__law_refused_0, fun _ _ _ _ _ => rfl, ct.sub, T20, lb__law_refused_0, fun _ => rfl, fun A outer s H E f c' R hR C hr tk => (je_call C g_saved t20_9 hR tk (hr.mono (by decide)) rfl T.f_saved.m T.f_saved.fu.kp T.f_saved.b (ja_cons je_v (ja_cons (je_listR C rfl N.list rfl N.range  (je_sub (je_len rfl N.len (ja_cons je_v ja_nil)) je_int)) ja_nil)))⟩
        | 1, rfl => ⟨ls__law_refused_1, fun _ _ _ _ _ => rfl, ct.sub, T20, lb__law_refused_1, fun _ => rfl, fun A outer s H E f c' R hR C hr tk => (je_call C g_saved t20_9 hR tk (hr.mono (by decide)) rfl T.f_saved.m T.f_saved.fu.kp T.f_saved.b (ja_cons je_v (ja_cons je_v ja_nil)))⟩
        | 2, rfl => ⟨ls__law_refused_2, fun _ _ _ _ _ => rfl, ct.sub, T20, lb__law_refused_2, fun _ => rfl, fun A outer s H E f c' R hR C hr tk => (je_call C g_held t20_8 hR tk (hr.mono (by decide)) rfl T.f_held.m T.f_held.fu.kp T.f_held.b (ja_cons je_v (ja_cons je_v ja_nil)))⟩
        | 3, rfl => ⟨ls__law_refused_3, fun _ _ _ _ _ => rfl, ct.sub, T20, lb__law_refused_3, fun _ => rfl, fun A outer s H E f c' R hR C hr tk => (je_call C g_saved t20_9 hR tk (hr.mono (by decide)) rfl T.f_saved.m T.f_saved.fu.kp T.f_saved.b (ja_cons je_v (ja_cons je_v ja_nil)))⟩
        | 4, rfl => ⟨ls__law_refused_4, fun _ _ _ _ _ => rfl, ct.sub, T20, lb__law_refused_4, fun _ => rfl, fun A outer s H E f c' R hR C hr tk => (je_call C g_held t20_8 hR tk (hr.mono (by decide)) rfl T.f_held.m T.f_held.fu.kp T.f_held.b (ja_cons je_v (ja_cons je_v ja_nil)))⟩
        | _ + 5, e => (nomatch e)
      (jss_cons (js_asg C (je_call C g__law_pick u__law_refused_12 hR tk (hr.mono (by decide)) rfl T.f__law_pick.m T.f__law_pick.fu.kp T.f__law_pick.b (ja_cons je_v (ja_cons (je_lst (ja_cons je_non (ja_cons je_int (ja_cons je_dd0 (ja_cons (je_lst (ja_cons je_int (ja_cons je_int ja_nil))) (ja_cons (je_lst (ja_cons (je_neg je_int) ja_nil)) (ja_cons (je_lst (ja_cons (je_len rfl N.len (ja_cons je_v ja_nil)) ja_nil)) (ja_cons (je_lst (ja_cons je_bl ja_nil)) (ja_cons (je_lst (ja_cons je_str ja_nil)) (ja_cons (je_lst (ja_cons je_non ja_nil)) (ja_cons (je_lst (ja_cons (je_lst ja_nil) ja_nil)) ja_nil))))))))))) ja_nil))))
      (jss_cons (js_asg C (je_call C g__law_bent u__law_refused_19 hR tk (hr.mono (by decide)) rfl T.f__law_bent.m T.f__law_bent.fu.kp T.f__law_bent.b (ja_cons je_v (ja_cons je_v ja_nil))))
      (jss_cons (js_asg C (je_call C g__law_wrong u__law_refused_18 hR tk (hr.mono (by decide)) rfl T.f__law_wrong.m T.f__law_wrong.fu.kp T.f__law_wrong.b (ja_cons je_v ja_nil)))
      (jss_cons (js_asg C (je_lst (ja_cons (je_lam O ls__law_refused_4) ja_nil)))
      (jss_cons (js_ex (je_append (pv 5) (ja_cons (je_lam O ls__law_refused_3) ja_nil)))
      (jss_cons (js_if (je_and (jb_and (je_notN je_v) (jb_and1 (je_ne C (je_lcfw C (l__law_error.mono (k := 7) (by decide)) hR (fun _ _ => OkR.sim) uw__law_refused_17 (hr.mono (by decide)) (by decide) T.f__law_error.m T.f__law_error.fu.kp T.f__law_error.b O HL (ji_seq je_v) (fun _ _ _ _ _ C => (jg_name C)) (fun _ _ _ _ _ C => jts_nil) (fun _ _ _ _ _ C => je_v) (dis := caps_dis (by decide))) (je_mul (je_lst (ja_cons (je_tup (ja_cons je_str (ja_cons je_v ja_nil))) ja_nil)) je_int))))) (jss_cons (js_ret je_bl)
      jss_nil) jss_nil)
      (jss_cons (js_asg C (je_lst (ja_cons (je_lam O ls__law_refused_2) ja_nil)))
      (jss_cons (js_ex (je_append (pv 5) (ja_cons (je_lam O ls__law_refused_1) ja_nil)))
      (jss_cons (js_ex (je_append (pv 5) (ja_cons (je_lam O ls__law_refused_0) ja_nil)))
      (jss_cons (js_ret (je_eq C (je_lcfw C (l__law_error.mono (k := 7) (by decide)) hR (fun _ _ => OkR.sim) uw__law_refused_17 (hr.mono (by decide)) (by decide) T.f__law_error.m T.f__law_error.fu.kp T.f__law_error.b O HL (ji_seq je_v) (fun _ _ _ _ _ C => (jg_name C)) (fun _ _ _ _ _ C => jts_nil) (fun _ _ _ _ _ C => je_v) (dis := caps_dis (by decide))) (je_mul (je_lst (ja_cons (je_tup (ja_cons je_str (ja_cons je_int ja_nil))) ja_nil)) je_int)))
      jss_nil))))))))))
def T21 : Nat → Fn := fun j => if j = 21 then F__law_refused else T20 j
abbrev ir_law : Ss :=
      (.cons (.for_ [2] .range1 (.cons (.c (.int 5)) .nil) (.cons (.asg 3 (.f 14 (.cons (.v 1) (.cons (.c (.int 10)) .nil)) [] [0, 1]))
      (.cons (.for_ [4] .range1 (.cons (.c (.int 4)) .nil) (.cons (.asg 5 (.v 3))
      (.cons (.for_ [6] .range1 (.cons (.f 11 (.cons (.v 1) (.cons (.c (.int 3)) .nil)) [] [0, 1]) .nil) (.cons (.asg 5 (.ite (.and (.b (.isi [.list] true) (.cons (.v 5) .nil)) (.b .isN (.cons (.f 18 (.cons (.v 5) .nil) [] [0]) .nil))) (.f 19 (.cons (.v 1) (.cons (.v 5) .nil)) [] [0, 1]) (.v 5)))
      .nil))
      (.cons (.par [11, 12] (.cons (.b .isN (.cons (.f 18 (.cons (.v 5) .nil) [] [0]) .nil)) (.cons (.b .repr (.cons (.v 5) .nil)) .nil)))
      (.cons (.ite (.or (.b .ne (.cons (.b .repr (.cons (.lst (.cons (.f 3 (.cons (.v 5) .nil) [] [0]) (.cons (.f 3 (.cons (.v 5) .nil) ["value"] [0]) .nil))) .nil)) (.cons (.b .repr (.cons (.lst (.cons (.v 11) (.cons (.v 11) .nil))) .nil)) .nil))) (.b .ne (.cons (.b .repr (.cons (.v 5) .nil)) (.cons (.v 12) .nil)))) (.cons (.ret (.c (.bl false)))
      .nil) .nil)
      (.cons (.asg 7 (.f 13 (.cons (.v 1) (.cons (.b .listR (.cons (.b .len (.cons (.v 3) .nil)) .nil)) .nil)) [] [0, 1]))
      (.cons (.asg 8 (.b (.slc false true) (.cons (.v 7) (.cons (.f 11 (.cons (.v 1) (.cons (.b .add (.cons (.b .len (.cons (.v 7) .nil)) (.cons (.c (.int 1)) .nil))) .nil)) [] [0, 1]) .nil))))
      (.cons (.asg 9 (.f 8 (.cons (.v 3) (.cons (.v 8) .nil)) [] [0, 1]))
      (.cons (.ite (.or (.b .ne (.cons (.b .repr (.cons (.v 9) .nil)) (.cons (.b .repr (.cons (.f 15 (.cons (.v 3) (.cons (.v 8) .nil)) [] [0, 1]) .nil)) .nil))) (.b .ne (.cons (.f 8 (.cons (.b .tuple (.cons (.v 8) .nil)) (.cons (.b .tuple (.cons (.v 3) .nil)) .nil)) ["done", "pattern"] [1, 0]) (.cons (.v 9) .nil)))) (.cons (.ret (.c (.bl false)))
      .nil) .nil)
      (.cons (.asg 10 (.f 16 (.cons (.v 3) (.cons (.v 7) .nil)) [] [0, 1]))
      (.cons (.ite (.or (.b .ne (.cons (.f 9 (.cons (.v 3) (.cons (.v 7) .nil)) [] [0, 1]) (.cons (.v 10) .nil))) (.b .ne (.cons (.f 9 (.cons (.b .tuple (.cons (.v 7) .nil)) (.cons (.v 3) .nil)) ["order", "pattern"] [1, 0]) (.cons (.v 10) .nil)))) (.cons (.ret (.c (.bl false)))
      .nil) .nil)
      .nil)))))))))))
      (.cons (.ite (.or (.not (.f 20 (.cons (.v 1) .nil) [] [0])) (.not (.f 21 (.cons (.v 1) (.cons (.v 3) .nil)) [] [0, 1]))) (.cons (.ret (.c (.bl false)))
      .nil) .nil)
      .nil))))
      (.cons (.ret (.c (.bl true)))
      .nil))
theorem t21_19 : T21 19 = F__law_bent := by simp [T0, T1, T2, T3, T4, T5, T6, T7, T8, T9, T10, T11, T12, T13, T14, T15, T16, T17, T18, T19, T20, T21]
theorem t21_11 : T21 11 = F__law_draw := by simp [T0, T1, T2, T3, T4, T5, T6, T7, T8, T9, T10, T11, T12, T13, T14, T15, T16, T17, T18, T19, T20, T21]
theorem t21_14 : T21 14 = F__law_grid := by simp [T0, T1, T2, T3, T4, T5, T6, T7, T8, T9, T10, T11, T12, T13, T14, T15, T16, T17, T18, T19, T20, T21]
theorem t21_15 : T21 15 = F__law_kept := by simp [T0, T1, T2, T3, T4, T5, T6, T7, T8, T9, T10, T11, T12, T13, T14, T15, T16, T17, T18, T19, T20, T21]
theorem t21_13 : T21 13 = F__law_mixed := by simp [T0, T1, T2, T3, T4, T5, T6, T7, T8, T9, T10, T11, T12, T13, T14, T15, T16, T17, T18, T19, T20, T21]
theorem t21_16 : T21 16 = F__law_most := by simp [T0, T1, T2, T3, T4, T5, T6, T7, T8, T9, T10, T11, T12, T13, T14, T15, T16, T17, T18, T19, T20, T21]
theorem t21_20 : T21 20 = F__law_offsets_right := by simp [T0, T1, T2, T3, T4, T5, T6, T7, T8, T9, T10, T11, T12, T13, T14, T15, T16, T17, T18, T19, T20, T21]
theorem t21_21 : T21 21 = F__law_refused := by simp [T0, T1, T2, T3, T4, T5, T6, T7, T8, T9, T10, T11, T12, T13, T14, T15, T16, T17, T18, T19, T20, T21]
theorem t21_18 : T21 18 = F__law_wrong := by simp [T0, T1, T2, T3, T4, T5, T6, T7, T8, T9, T10, T11, T12, T13, T14, T15, T16, T17, T18, T19, T20, T21]
theorem t21_8 : T21 8 = F_held := by simp [T0, T1, T2, T3, T4, T5, T6, T7, T8, T9, T10, T11, T12, T13, T14, T15, T16, T17, T18, T19, T20, T21]
theorem t21_3 : T21 3 = F_is_pattern := by simp [T0, T1, T2, T3, T4, T5, T6, T7, T8, T9, T10, T11, T12, T13, T14, T15, T16, T17, T18, T19, T20, T21]
theorem t21_9 : T21 9 = F_saved := by simp [T0, T1, T2, T3, T4, T5, T6, T7, T8, T9, T10, T11, T12, T13, T14, T15, T16, T17, T18, T19, T20, T21]
def TL : Nat → Fn := T21
theorem law_rest (T : Txt K mg fd fi) (N : Blt mg) (g__law_bent : FnG P w K mg base 3 (He.ga K "_law_bent") (fd 19) p__law_bent (fsp (ok w tb K tl) 2 F__law_bent)) (g__law_draw : FnG P w K mg base 1 (He.ga K "_law_draw") (fd 11) p__law_draw (fsp (ok w tb K tl) 2 F__law_draw)) (g__law_grid : FnG P w K mg base 2 (He.ga K "_law_grid") (fd 14) p__law_grid (fsp (ok w tb K tl) 2 F__law_grid)) (g__law_kept : FnG P w K mg base 1 (He.ga K "_law_kept") (fd 15) p__law_kept (fsp (ok w tb K tl) 2 F__law_kept)) (g__law_mixed : FnG P w K mg base 2 (He.ga K "_law_mixed") (fd 13) p__law_mixed (fsp (ok w tb K tl) 2 F__law_mixed)) (g__law_most : FnG P w K mg base 2 (He.ga K "_law_most") (fd 16) p__law_most (fsp (ok w tb K tl) 2 F__law_most)) (g__law_offsets_right : FnG P w K mg base 6 (He.ga K "_law_offsets_right") (fd 20) p__law_offsets_right (fsp (ok w tb K tl) 1 F__law_offsets_right)) (g__law_refused : FnG P w K mg base 8 (He.ga K "_law_refused") (fd 21) p__law_refused (fsp (ok w tb K tl) 2 F__law_refused)) (g__law_wrong : FnG P w K mg base 1 (He.ga K "_law_wrong") (fd 18) p__law_wrong (fsp (ok w tb K tl) 1 F__law_wrong)) (g_held : FnG P w K mg base 5 (He.ga K "held") (fd 8) p_held (fsp (ok w tb K tl) 2 F_held)) (g_is_pattern : FnG P w K mg base 4 (He.ga K "is_pattern") (fd 3) p_is_pattern (fsp (ok w tb K tl) 1 F_is_pattern)) (g_saved : FnG P w K mg base 5 (He.ga K "saved") (fd 9) p_saved (fsp (ok w tb K tl) 2 F_saved)) {cdv : Value} {A : Around} {outer : List PySem.Env} {s : Shared} {H : Hp} {E : XK} {R : Rn} (hR : ok w tb K tl R) (C : Cok (cxOf (L2.CX P w) P w K mg base n_law "law" (defScope s_law) (He.ga K "law") cdv A outer s H E)) (hr : Room 8 (A.deeper (envOfC "law" (defScope s_law) s.heap.objs.size (He.ga K "law") cdv)))
    (tk : Takes (cxOf (L2.CX P w) P w K mg base n_law "law" (defScope s_law) (He.ga K "law") cdv A outer s H E) (wX (cgOf R E ct.sub TL).W)) : JSs (cgOf R E ct.sub TL) (cxOf (L2.CX P w) P w K mg base n_law "law" (defScope s_law) (He.ga K "law") cdv A outer s H E) ((defBody s_law).drop 1) ir_law :=
      (jss_cons (js_for C (ji_range1 rfl N.range (ja_cons je_int ja_nil)) (jg_name C) (jss_cons (js_asg C (je_call C g__law_grid t21_14 hR tk (hr.mono (by decide)) rfl T.f__law_grid.m T.f__law_grid.fu.kp T.f__law_grid.b (ja_cons je_v (ja_cons je_int ja_nil))))
      (jss_cons (js_for C (ji_range1 rfl N.range (ja_cons je_int ja_nil)) (jg_name C) (jss_cons (js_asg C je_v)
      (jss_cons (js_for C (ji_range1 rfl N.range (ja_cons (je_call C g__law_draw t21_11 hR tk (hr.mono (by decide)) rfl T.f__law_draw.m T.f__law_draw.fu.kp T.f__law_draw.b (ja_cons je_v (ja_cons je_int ja_nil))) ja_nil)) (jg_name C) (jss_cons (js_asg C (je_ite (je_and (jb_and (je_isi1 rfl N.isinstance je_v (jty_list rfl N.list)) (jb_and1 (je_isN (je_call C g__law_wrong t21_18 hR tk (hr.mono (by decide)) rfl T.f__law_wrong.m T.f__law_wrong.fu.kp T.f__law_wrong.b (ja_cons je_v ja_nil)))))) (je_call C g__law_bent t21_19 hR tk (hr.mono (by decide)) rfl T.f__law_bent.m T.f__law_bent.fu.kp T.f__law_bent.b (ja_cons je_v (ja_cons je_v ja_nil))) je_v))
      jss_nil))
      (jss_cons (js_par2 C (ja_cons (je_isN (je_call C g__law_wrong t21_18 hR tk (hr.mono (by decide)) rfl T.f__law_wrong.m T.f__law_wrong.fu.kp T.f__law_wrong.b (ja_cons je_v ja_nil))) (ja_cons (je_repr C rfl N.repr (ja_cons je_v ja_nil)) ja_nil)))
      (jss_cons (js_if (je_or (jb_or (je_ne C (je_repr C rfl N.repr (ja_cons (je_lst (ja_cons (je_call C g_is_pattern t21_3 hR tk (hr.mono (by decide)) rfl T.f_is_pattern.m T.f_is_pattern.fu.kp T.f_is_pattern.b (ja_cons je_v ja_nil)) (ja_cons (je_callK C g_is_pattern t21_3 hR tk (hr.mono (by decide)) rfl T.f_is_pattern.m T.f_is_pattern.fu.kp (bk_is_pattern_0_value T) (jw_cons je_v jw_nil)) ja_nil))) ja_nil)) (je_repr C rfl N.repr (ja_cons (je_lst (ja_cons je_v (ja_cons je_v ja_nil))) ja_nil))) (jb_or1 (je_ne C (je_repr C rfl N.repr (ja_cons je_v ja_nil)) je_v)))) (jss_cons (js_ret je_bl)
      jss_nil) jss_nil)
      (jss_cons (js_asg C (je_call C g__law_mixed t21_13 hR tk (hr.mono (by decide)) rfl T.f__law_mixed.m T.f__law_mixed.fu.kp T.f__law_mixed.b (ja_cons je_v (ja_cons (je_listR C rfl N.list rfl N.range  (je_len rfl N.len (ja_cons je_v ja_nil))) ja_nil))))
      (jss_cons (js_asg C (je_slc_ft je_v (je_call C g__law_draw t21_11 hR tk (hr.mono (by decide)) rfl T.f__law_draw.m T.f__law_draw.fu.kp T.f__law_draw.b (ja_cons je_v (ja_cons (je_add (je_len rfl N.len (ja_cons je_v ja_nil)) je_int) ja_nil)))))
      (jss_cons (js_asg C (je_call C g_held t21_8 hR tk (hr.mono (by decide)) rfl T.f_held.m T.f_held.fu.kp T.f_held.b (ja_cons je_v (ja_cons je_v ja_nil))))
      (jss_cons (js_if (je_or (jb_or (je_ne C (je_repr C rfl N.repr (ja_cons je_v ja_nil)) (je_repr C rfl N.repr (ja_cons (je_call C g__law_kept t21_15 hR tk (hr.mono (by decide)) rfl T.f__law_kept.m T.f__law_kept.fu.kp T.f__law_kept.b (ja_cons je_v (ja_cons je_v ja_nil))) ja_nil))) (jb_or1 (je_ne C (je_callK C g_held t21_8 hR tk (hr.mono (by decide)) rfl T.f_held.m T.f_held.fu.kp (bk_held_0_done_pattern T) (jw_cons (je_tuple rfl N.tuple (ja_cons je_v ja_nil)) (jw_cons (je_tuple rfl N.tuple (ja_cons je_v ja_nil)) jw_nil))) je_v)))) (jss_cons (js_ret je_bl)
      jss_nil) jss_nil)
      (jss_cons (js_asg C (je_call C g__law_most t21_16 hR tk (hr.mono (by decide)) rfl T.f__law_most.m T.f__law_most.fu.kp T.f__law_most.b (ja_cons je_v (ja_cons je_v ja_nil))))
      (jss_cons (js_if (je_or (jb_or (je_ne C (je_call C g_saved t21_9 hR tk (hr.mono (by decide)) rfl T.f_saved.m T.f_saved.fu.kp T.f_saved.b (ja_cons je_v (ja_cons je_v ja_nil))) je_v) (jb_or1 (je_ne C (je_callK C g_saved t21_9 hR tk (hr.mono (by decide)) rfl T.f_saved.m T.f_saved.fu.kp (bk_saved_0_order_pattern T) (jw_cons (je_tuple rfl N.tuple (ja_cons je_v ja_nil)) (jw_cons je_v jw_nil))) je_v)))) (jss_cons (js_ret je_bl)
      jss_nil) jss_nil)
      jss_nil)))))))))))
      (jss_cons (js_if (je_or (jb_or (je_not (je_call C g__law_offsets_right t21_20 hR tk (hr.mono (by decide)) rfl T.f__law_offsets_right.m T.f__law_offsets_right.fu.kp T.f__law_offsets_right.b (ja_cons je_v ja_nil))) (jb_or1 (je_not (je_call C g__law_refused t21_21 hR tk (hr.mono (by decide)) rfl T.f__law_refused.m T.f__law_refused.fu.kp T.f__law_refused.b (ja_cons je_v (ja_cons je_v ja_nil))))))) (jss_cons (js_ret je_bl)
      jss_nil) jss_nil)
      jss_nil))))
      (jss_cons (js_ret je_bl)
      jss_nil))
end
end K

set_option maxHeartbeats 1000000
namespace K
open PySem PySem.Spec PyProof.Rows L2 G
section
variable {P : Program} {w : World} {K : PySem.W.Frag} {mg : Str → Option Value} {base : Heap} {fd fi : Nat → FuncData} {tb : List (Addr × Str)}
theorem mod_k {i : Int} {n : Nat} (h : 0 < n) : ∃ k : Nat, i % (n : Int) = (k : Int) ∧ k < n := by
  have h1 : 0 ≤ i % (n : Int) := Int.emod_nonneg i (by omega)
  have h2 : i % (n : Int) < (n : Int) := Int.emod_lt_of_pos i (by omega)
  exact ⟨(i % (n : Int)).toNat, by omega, by omega⟩
theorem atI_int {cs : List Int} {k : Nat} (h : k < cs.length) : atI (cs.map V.int) (k : Int) = some (.int cs[k]) := by
  unfold atI
  rw [List.length_map, ixN_k h]
  simp [h]
theorem set_int {cs : List Int} {k : Nat} {v : Int} : (cs.map V.int).set k (.int v) = (cs.set k v).map V.int := by rw [List.map_set]
theorem ok__law_draw (T : Txt K mg fd fi) (N : Blt mg) : FnG P w K mg base 1 (He.ga K "_law_draw") (fd 11) p__law_draw (fsp (ok w tb K 0) 2 F__law_draw) := by
  refine fnG_hand (k := 0) T.f__law_draw.fu sc__law_draw (fun vs H Q E h => ?_) fun cdv A outer s H vs Q E C hr h => ⟨_,
    pss_cons (ps_set (i := 2) C.nd rfl (.inl rfl) (pe_ix ix_seq (pv 0) pe_int (fun _ _ => rfl)))
    (pss_cons (ps_set (i := 3) C.nd rfl (.inl rfl) (pe_op op_mod (pe_callTy call_int1 rfl N.int (by rfl) (pa_cons (pe_ix ix_seq (pv 0) pe_int (fun _ _ => rfl)) pa_nil)) (pe_callB call_len_seq (by rfl) N.len PySem.boot_len (pa_cons (pv 2) pa_nil))))
    (pss_cons (ps_set (i := 4) C.nd rfl (.inl rfl) (pe_ix ix_seq (pv 2) (pv 3) (fun _ _ => rfl)))
    (pss_cons (ps_if (pt_cmpR op_ge (pv 4) (pe_op op_pow pe_int pe_int) (nomark _))
      (pss_cons (ps_asg (pe_op op_fdiv (pv 4) (pv 1)) (pg_sub (pv 2) (pv 3) set_list (by intro _; rfl)))
      (pss_one (ps_ret (pe_op op_mod (pe_callTy call_int1 rfl N.int (by rfl) (pa_cons (pv 4) pa_nil)) (pv 1)))))
      pss_nil)
    (pss_cons (ps_asg (pe_op op_add (pe_ix ix_seq (pv 0) pe_int (fun _ _ => rfl)) pe_int) (pg_sub (pv 0) pe_int set_list (by intro _; rfl)))
    (pss_cons (ps_asg (pe_op op_mod (pe_callTy call_int1 rfl N.int (by rfl) (pa_cons (pe_op op_add (pe_op op_add (pe_op op_add (pe_op op_mul (pe_ix ix_seq (pv 0) pe_int (fun _ _ => rfl)) pe_int) (pv 4)) (pe_op op_mul pe_int (pe_ix ix_seq (pv 0) pe_int (fun _ _ => rfl)))) pe_int) pa_nil)) pe_int) (pg_sub (pv 0) pe_int set_list (by intro _; rfl)))
    (pss_cons (ps_set (i := 5) C.nd rfl (.inl rfl) (pe_op op_mod (pe_callTy call_int1 rfl N.int (by rfl) (pa_cons (pe_op op_mul (pe_ix ix_seq (pv 0) pe_int (fun _ _ => rfl)) (pe_ix ix_seq (pv 0) pe_int (fun _ _ => rfl))) pa_nil)) pe_int))
    (pss_one (ps_ret (pe_op op_mod (pe_callTy call_int1 rfl N.int (by rfl) (pa_cons (pe_op op_fdiv (pv 5) pe_int) pa_nil)) (pv 1))))))))))
    , ?_⟩
  · obtain ⟨R, _, ds, F, g, r, hl, _⟩ := h
    rw [r.length, hl]
    rfl
  · obtain ⟨R, F, r, n, i, m, cs, tl, hR, g, hr, rfl, hn, hn2, ne, h1, h2, hi, hm, hm2, hc, hc2, htl, hQ⟩ := draw_in rfl h
    obtain rfl : tl = [] := by
      rw [hR.tl] at htl
      match tl, htl with
      | [], _ => rfl
    have h1 : H r.1 = some (.lst [.ref r.2, .int i, .int m]) := h1
    have hlen : (0 : Int) < ((cs.map V.int).length : Int) := by
      have := List.length_pos_iff.mpr hc
      rw [List.length_map]
      omega
    obtain ⟨k, hk, hkl⟩ := mod_k (i := i) (List.length_pos_iff.mpr hc)
    refine ⟨_, rfl, .inl ⟨r.1, _, _, _, rfl, rfl, .of h1, atI_0, ?_⟩⟩
    refine ⟨_, rfl, .inl ⟨r.1, _, _, _, rfl, rfl, .of h1, atI_1, .inl ⟨_, rfl, _, rfl, r.2, _, rfl, .inl (.of h2), _, _, rfl, rfl, hlen, ?_⟩⟩⟩
    show gName 3 (V.int (i % ((cs.map V.int).length : Int))) _ _ _
    rw [List.length_map, hk]
    refine ⟨_, rfl, _, rfl, .inl ⟨r.2, _, _, _, rfl, rfl, .of h2, atI_int hkl, ?_⟩⟩
    refine ⟨_, rfl, 10, 18, rfl, rfl, ⟨by decide, by decide, by decide⟩, _, _, rfl, rfl, _, rfl, ?_⟩
    refine ite2 (fun _ => ?_) fun _ => ?_
    · refine ⟨_, rfl, _, rfl, _, _, rfl, rfl, ⟨hn, by omega⟩, ?_⟩
      refine ⟨_, rfl, _, rfl, r.2, _, _, k, rfl, rfl, h2, by rw [List.length_map]; exact ixN_k hkl, ?_⟩
      refine ⟨_, rfl, .inl ⟨_, rfl, _, rfl, _, _, rfl, rfl, hn, ?_⟩⟩
      rw [set_int]
      refine draw_fin g hr hQ ⟨Int.emod_nonneg _ (by omega), Int.emod_lt_of_pos _ hn⟩ (fun a z1 z2 => upd_ne z2) ?_
      unfold DrwOk
      rw [hr]
      exact ⟨i, m, _, _, ne, by rw [upd_ne ne]; exact h1, upd_same, hi, hm, hm2, fun z => hc (by simpa using z), by rw [List.length_set]; exact hc2, htl⟩
    · refine ⟨_, rfl, .inl ⟨r.1, _, _, _, rfl, rfl, .of h1, atI_1, _, _, rfl, rfl, ?_⟩⟩
      refine ⟨_, rfl, r.1, _, 1, 1, rfl, rfl, h1, rfl, ?_⟩
      have e2 := (upd_same : upd H r.1 (.lst [.ref r.2, .int (i + 1), .int m]) r.1 = _)
      refine ⟨_, rfl, .inl ⟨r.1, _, _, _, rfl, rfl, .of e2, atI_2, _, _, rfl, rfl, .inr ⟨by decide, by decide⟩, _, rfl, _, _, rfl, rfl, _, rfl, .inl ⟨r.1, _, _, _, rfl, rfl, .of e2, atI_1, _, _, rfl, rfl, .inl ⟨by decide, by decide⟩, _, _, rfl, rfl, _, _, rfl, rfl, .inl ⟨_, rfl, _, _, rfl, rfl, (by show (0 : Int) < 2147483647; decide), ?_⟩⟩⟩⟩
      refine ⟨_, rfl, r.1, _, 2, 2, rfl, rfl, e2, rfl, ?_⟩
      rw [upd_upd]
      obtain ⟨m', hm'⟩ : ∃ m', m' = (m * 48271 + cs[k] + 7919 * (i + 1) + 12345) % 2147483647 := ⟨_, rfl⟩
      have m1 : 0 ≤ m' := by rw [hm']; exact Int.emod_nonneg _ (by decide)
      have m2 : m' < 2147483647 := by rw [hm']; exact Int.emod_lt_of_pos _ (by decide)
      have e3 : upd H r.1 (.lst [.ref r.2, .int (i + 1), .int ((m * 48271 + cs[k] + 7919 * (i + 1) + 12345) % 2147483647)]) r.1 = some (.lst [.ref r.2, .int (i + 1), .int m']) := by rw [hm']; exact upd_same
      refine ⟨_, rfl, .inl ⟨r.1, _, _, _, rfl, rfl, .of e3, atI_2, _, rfl, .inl ⟨r.1, _, _, _, rfl, rfl, .of e3, atI_2, _, _, rfl, rfl, (show CMul m' m' from .inl ⟨by omega, by omega⟩), .inl ⟨_, rfl, _, _, rfl, rfl, (by show (0 : Int) < 2147483629; decide), ?_⟩⟩⟩⟩
      refine ⟨_, rfl, _, _, rfl, rfl, ⟨by decide, by decide⟩, .inl ⟨_, rfl, _, rfl, _, _, rfl, rfl, hn, ?_⟩⟩
      refine draw_fin g hr hQ ⟨Int.emod_nonneg _ (by omega), Int.emod_lt_of_pos _ hn⟩ (fun a z1 z2 => upd_ne z1) ?_
      unfold DrwOk
      rw [hr]
      exact ⟨i + 1, m', cs, [], ne, e3, by rw [upd_ne (Ne.symm ne)]; exact h2, by omega, m1, by omega, hc, hc2, htl⟩
end
end K

set_option maxHeartbeats 1000000
namespace K
open PySem PySem.Spec PyProof.Rows L2 G LamX
/-! ### the package's own words -/
theorem is_integer_ok {d : D} (h : (tyD d).isSome = true) : wpF (F_is_integer [d]) (fun _ r => r = .bl (isI d)) fun _ => False := by
  unfold F_is_integer
  refine wpF_fnOf ?_
  show wp _ [some (0, d)] _ _
  cases d <;> first | (simp [isTy, tyD, Ty.own, isI] <;> done) | (simp [tyD] at h)
/-- a cell below n -/
def cellB (n : Nat) : D → Bool
  | .int i => decide (0 ≤ i) && decide (i < (n : Int))
  | _ => false
theorem cells_ok {n : Nat} : ∀ {l : List D}, l.all (cellB n) = true → ∃ a : List Int, l = a.map .int ∧ iL l = some a ∧ ∀ i ∈ a, 0 ≤ i ∧ i < (n : Int)
  | [], _ => ⟨[], rfl, rfl, fun _ h => nomatch h⟩
  | d :: r, h => by
    simp only [List.all_cons, Bool.and_eq_true] at h
    obtain ⟨a, rfl, h2, h3⟩ := cells_ok h.2
    match d, h.1 with
    | .int i, h1 =>
      simp only [cellB, Bool.and_eq_true, decide_eq_true_eq] at h1
      refine ⟨i :: a, rfl, by simp only [iL, h2]; rfl, fun j hj => ?_⟩
      rcases List.mem_cons.mp hj with rfl | hj
      · exact h1
      · exact h3 j hj
theorem bL_map {α : Type} {f : α → Bool} : ∀ {l : List α}, bL (l.map fun x => D.bl (f x)) = some (l.map f)
  | [] => rfl
  | a :: l => by simp only [List.map_cons, bL, bL_map (l := l)]; rfl
theorem all_map {α : Type} {f : α → Bool} {l : List α} : allD (.lst (l.map fun x => D.bl (f x))) = some (.bl (l.all f)) := by
  unfold allD
  simp only [bL_map, Option.map_some]
  simp [List.all_map, Function.comp_def]
theorem any_map {α : Type} {f : α → Bool} {l : List α} : anyD (.lst (l.map fun x => D.bl (f x))) = some (.bl (l.any f)) := by
  unfold anyD
  simp only [bL_map, Option.map_some]
  simp [List.any_map, Function.comp_def]
/-- a row of a pattern of n cells -/
def rowB (n : Nat) : D → Bool
  | .tup l => l.all (cellB n) && (match iL l with | some a => decide (a.Pairwise (· < ·)) | none => false)
  | _ => false
/-- what may be asked whether it is a row -/
structure RowV (d : D) : Prop where
  ty : (tyD d).isSome = true
  it : ∀ l, d = .tup l → l.length < 64 ∧ ∀ x ∈ l, (tyD x).isSome = true
theorem t2_0' : T2 0 = F_is_integer := t2_0
theorem sz1 : sizeLine = 16777216 := by decide
theorem cell_elt {n : Nat} {x : D} {d1 d2 : D} (hx : (tyD x).isSome = true) : wp (ev ct.sub T2 (.and (.f 0 (.cons (.v 2) .nil) [] [0]) (.ch .le .lt (.c (.int 0)) (.v 2) (.v 1)))).val [some (0, d1), some (0, .int n), some (0, x)] (fun y e4 => y.2 = .bl (cellB n x) ∧ wipeE [2] e4 = wipeE [2] [some (0, d1), some (0, .int n), none]) fun _ _ => False := by
  simp [t2_0, permD]
  refine wpF_is (is_integer_ok hx) fun fr => ?_
  cases x <;> first | (simp [isI, cellB, wipeE]; done) | skip
  rename_i i
  simp [isI, cellB, wipeE]
  by_cases h : 0 ≤ i <;> simp [h] <;> omega
theorem is_row_ok {d : D} {n : Nat} (h : RowV d) : wpF (F_is_row [d, .int n]) (fun _ r => r = .bl (rowB n d)) fun _ => False := by
  unfold F_is_row
  refine wpF_fnOf ?_
  show wp _ [some (0, d), some (0, .int n), none] _ _
  cases d <;> first | (simp [isTy, tyD, Ty.own, rowB] <;> done) | (have := h.ty; simp [tyD] at this; done) | skip
  rename_i l
  obtain ⟨hl, hx⟩ := h.it l rfl
  simp [isTy, tyD, Ty.own]
  refine wp_lcA (fun x => .bl (cellB n x)) (by simp [idle]) (by rw [sz1]; omega) (fun x hm => ?_) ?_
  · simp [wipeE]
    have := cell_elt (n := n) (d1 := .tup l) (d2 := .non) (hx x hm)
    simpa [wipeE] using this
  · simp [all_map]
    cases hc : l.all (cellB n) with
    | false =>
      refine .inl ⟨?_, by simp [rowB, hc]⟩
      rw [List.all_eq_false] at hc
      simpa using hc
    | true =>
      refine .inr ⟨List.all_eq_true.mp hc, ?_⟩
      obtain ⟨a, rfl, h2, h3⟩ := cells_ok hc
      have hla : a.length < 64 := by simpa using hl
      have h4 := ddI_len (l := a)
      refine ⟨_, ⟨_, setD_ints (by omega), rfl⟩, _, by rw [sortB_s, if_pos (by rw [List.length_map]; omega), sortD_ints, Option.map_some], ?_⟩
      rw [eqD_ints]
      have e : rowB n (.tup (a.map .int)) = decide (a = srt ltI (ddI a)) := by
        simp only [rowB, hc, h2, Bool.true_and]
        rw [Bool.eq_iff_iff, decide_eq_true_eq, decide_eq_true_eq, ← srt_dd]
        exact ⟨fun h => h.symm, fun h => h.symm⟩
      rw [e]
      cases decide (a = srt ltI (ddI a)) <;> simp
/-- what may be asked whether it is a pattern -/
structure PatV (d : D) : Prop where
  ty : (tyD d).isSome = true
  it : ∀ l, d = .tup l ∨ d = .lst l → l.length ≤ 1000 ∧ ∀ x ∈ l, RowV x
def firstNot (f : D → Bool) : List D → D
  | [] => .non
  | x :: r => if f x = true then (match firstNot f r with | .int i => .int (i + 1) | d => d) else .int 0
def wrongL (l : List D) : D := if 1 ≤ l.length ∧ l.length ≤ 10 then firstNot (rowB l.length) l else .int 0
def wrongB : D → D
  | .lst l => wrongL l
  | .tup l => wrongL l
  | _ => .int 0
/-- an enumerated item: its item is none of f's; its index -/
def eNot (f : D → Bool) : D → Bool
  | .tup [_, y] => !f y
  | _ => false
def eIdx : D → D
  | .tup [i, _] => i
  | _ => .non
@[simp] theorem eNot_t {f : D → Bool} {i y : D} : eNot f (.tup [i, y]) = !f y := rfl
@[simp] theorem eIdx_t {i y : D} : eIdx (.tup [i, y]) = i := rfl
theorem first_zip (f : D → Bool) : ∀ (l : List D) (k : Nat), ((((l.zipIdx k).map fun (p : D × Nat) => D.tup [.int (p.2 : Int), p.1]).filter (eNot f)).map eIdx ++ [D.non]).head? = some (match firstNot f l with | .int i => .int (i + k) | d => d)
  | [], k => rfl
  | x :: r, k => by
    have ih := first_zip f r (k + 1)
    simp only [List.zipIdx_cons, List.map_cons, List.filter_cons, firstNot, eNot_t]
    by_cases h : f x = true
    · simp only [h, Bool.not_true, Bool.false_eq_true, if_false, if_true]
      rw [ih]
      cases firstNot f r <;> simp
      omega
    · simp [h]
theorem atI_head {α : Type} {l : List α} {a : α} (h : l.head? = some a) : atI l 0 = some a := by
  cases l with
  | nil => cases h
  | cons b r => cases h; exact atI_0
theorem firstNot_int {f : D → Bool} : ∀ {l : List D}, (∃ i : Nat, firstNot f l = .int i) ∨ firstNot f l = .non
  | [] => .inr rfl
  | x :: r => by
    unfold firstNot
    split
    · rcases firstNot_int (f := f) (l := r) with ⟨i, h⟩ | h
      · exact .inl ⟨i + 1, by rw [h]; simp⟩
      · exact .inr (by rw [h])
    · exact .inl ⟨0, rfl⟩
theorem enum_mem {l : List D} {x : D} (h : x ∈ enumD l) : ∃ (i : Nat) (y : D), y ∈ l ∧ x = .tup [.int i, y] := by
  obtain ⟨p, hp, rfl⟩ := List.mem_map.mp h
  exact ⟨p.2, p.1, (List.mem_zipIdx' hp).2 ▸ List.getElem_mem _, rfl⟩
theorem enum_len {l : List D} : (enumD l).length = l.length := by simp [enumD]
theorem first_end {l a : List D} (ha : a = ((enumD l).filter (eNot (rowB l.length))).map eIdx) (h1 : 1 ≤ l.length) (h2 : l.length ≤ 10) :
    ∃ d, (a.length + 1 ≤ sizeLine ∧ D.lst (a ++ [D.non]) = d) ∧ idxD d (D.int 0) = some (wrongL l) := by
  refine ⟨_, ⟨?_, rfl⟩, ?_⟩
  · have := List.length_filter_le (eNot (rowB l.length)) (enumD l)
    rw [enum_len] at this
    rw [ha, sz1, List.length_map]
    omega
  · rw [idx_l]
    refine atI_head ?_
    rw [ha]
    have := first_zip (rowB l.length) l 0
    unfold enumD
    rw [this]
    unfold wrongL
    rw [if_pos ⟨h1, h2⟩]
    rcases firstNot_int (f := rowB l.length) (l := l) with ⟨i, h⟩ | h <;> rw [h] <;> simp
theorem first_ok {d : D} (h : PatV d) : wpF (F_first_wrong_row [d]) (fun _ r => r = wrongB d) fun _ => False := by
  unfold F_first_wrong_row
  refine wpF_fnOf ?_
  show wp _ [some (0, d), none, none] _ _
  cases d <;> first | (simp [isTy, tyD, Ty.own, wrongB] <;> done) | (have := h.ty; simp [tyD] at this; done) | skip
  all_goals
    rename_i l
    obtain ⟨hl, hx⟩ := h.it l (by simp)
    simp [isTy, tyD, Ty.own, wrongB]
    by_cases h1 : l.length < 1
    · exact .inl ⟨by omega, .inl ⟨by omega, by unfold wrongL; rw [if_neg (by omega)]⟩⟩
    · refine .inr ⟨by omega, ?_⟩
      by_cases h2 : 10 < l.length
      · exact .inl ⟨by omega, by unfold wrongL; rw [if_neg (by omega)]⟩
      · refine .inr ⟨by omega, ?_⟩
        refine wp_lc (eNot (rowB l.length)) eIdx (by simp [idle]) (by rw [sz1, enum_len]; omega) (fun x hm => ?_) (first_end rfl (by omega) (by omega))
        obtain ⟨i, y, hy, rfl⟩ := enum_mem hm
        simp [wipeE, t3_1, permD]
        refine wpF_is (is_row_ok (hx y hy)) fun fr => ?_
        cases rowB l.length y <;> simp
end K

set_option maxHeartbeats 1000000
namespace K
open PySem PySem.Spec PyProof.Rows L2 G LamX
@[simp] theorem sub_0 : ct.sub 0 = [0] := rfl
@[simp] theorem sub_1 : ct.sub 1 = [1, 0] := rfl
@[simp] theorem sub_2 : ct.sub 2 = [2, 0] := rfl
@[simp] theorem sub_3 : ct.sub 3 = [3, 0] := rfl
theorem is_pattern_ok {d : D} (h : PatV d) : wpF (F_is_pattern [d]) (fun _ r => r = .bl (isNone (wrongB d))) fun _ => False := by
  unfold F_is_pattern
  refine wpF_fnOf ?_
  show wp _ [some (0, d)] _ _
  simp [t4_2, permD]
  exact wpF_is (first_ok h) fun fr => by simp
theorem wrongB_is {d : D} : (∃ i : Nat, wrongB d = .int i) ∨ wrongB d = .non := by
  have z : ∀ l, (∃ i : Nat, wrongL l = .int i) ∨ wrongL l = .non := fun l => by
    unfold wrongL
    split
    · exact firstNot_int
    · exact .inl ⟨0, rfl⟩
  cases d <;> first | exact z _ | exact .inl ⟨0, rfl⟩
theorem need_pattern_ok {d : D} (h : PatV d) (hw : wrongB d = .non) : wpF (F_need_pattern [d]) (fun _ r => r = .non) fun _ => False := by
  unfold F_need_pattern
  refine wpF_fnOf ?_
  show wp _ [some (0, d), none] _ _
  simp [permD, t5_2]
  refine wpF_is (first_ok h) fun fr => ?_
  rw [hw]
  simp
theorem need_pattern_er {d : D} (h : PatV d) (hw : wrongB d ≠ .non) : wpF (F_need_pattern [d]) (fun _ _ => False) fun x => x = .exn 3 [wrongB d] := by
  unfold F_need_pattern
  refine wpF_fnOf ?_
  show wp _ [some (0, d), none] _ _
  simp [permD, t5_2]
  refine wpF_is (first_ok h) fun fr => ?_
  rcases wrongB_is (d := d) with ⟨i, e⟩ | e
  · rw [e]
    simp
  · exact absurd e hw
/-- a pattern -/
structure Pat (G : List (List Nat)) : Prop where
  len : 1 ≤ G.length ∧ G.length ≤ 10
  row : ∀ r ∈ G, Asc r ∧ ∀ c ∈ r, c < G.length
def rowD (r : List Nat) : D := .tup (cs r)
abbrev rowsD (G : List (List Nat)) : List D := G.map rowD
theorem Asc.len {r : List Nat} {n : Nat} (h : Asc r) (lt : ∀ c ∈ r, c < n) : r.length ≤ n := by
  have nd : r.Nodup := h.imp fun h => by omega
  have : r ⊆ List.range n := fun c hc => List.mem_range.mpr (lt c hc)
  have := nd.length_le_of_subset this
  simpa using this
theorem rowB_row {r : List Nat} {n : Nat} (h : Asc r) (lt : ∀ c ∈ r, c < n) : rowB n (rowD r) = true := by
  unfold rowB rowD
  simp only [iL_cs, Bool.and_eq_true, List.all_eq_true, decide_eq_true_eq]
  refine ⟨fun x hx => ?_, ?_⟩
  · obtain ⟨c, hc, rfl⟩ := List.mem_map.mp hx
    have := lt c hc
    simp [cellB]
    omega
  · rw [List.pairwise_map]
    exact h.imp fun h => by omega
theorem firstNot_all {f : D → Bool} : ∀ {l : List D}, (∀ x ∈ l, f x = true) → firstNot f l = .non
  | [], _ => rfl
  | x :: r, h => by
    unfold firstNot
    rw [if_pos (h x List.mem_cons_self), firstNot_all fun y hy => h y (List.mem_cons_of_mem _ hy)]
theorem Pat.wrong {G : List (List Nat)} (p : Pat G) : wrongL (rowsD G) = .non := by
  unfold wrongL
  rw [if_pos (by rw [List.length_map]; exact p.len)]
  refine firstNot_all fun x hx => ?_
  obtain ⟨r, hr, rfl⟩ := List.mem_map.mp hx
  rw [List.length_map]
  exact rowB_row (p.row r hr).1 (p.row r hr).2
theorem rowV_row {r : List Nat} (h : r.length < 64) : RowV (rowD r) := ⟨rfl, fun l e => by
  cases e
  refine ⟨by simpa using h, fun x hx => ?_⟩
  obtain ⟨c, _, rfl⟩ := List.mem_map.mp hx
  rfl⟩
theorem Pat.rowV {G : List (List Nat)} (p : Pat G) : ∀ x ∈ rowsD G, RowV x := fun x hx => by
  obtain ⟨r, hr, rfl⟩ := List.mem_map.mp hx
  have := Asc.len (p.row r hr).1 (p.row r hr).2
  have := p.len
  exact rowV_row (by omega)
theorem Pat.v {G : List (List Nat)} (p : Pat G) : PatV (.lst (rowsD G)) ∧ PatV (.tup (rowsD G)) := by
  have := p.len
  exact ⟨⟨rfl, fun l e => by rcases e with e | e <;> cases e; exact ⟨by rw [List.length_map]; omega, p.rowV⟩⟩, ⟨rfl, fun l e => by rcases e with e | e <;> cases e; exact ⟨by rw [List.length_map]; omega, p.rowV⟩⟩⟩
/-- a list or a tuple of these -/
def Sq (l : List D) (d : D) : Prop := d = .lst l ∨ d = .tup l
/-- what may be asked whether it is a list of cells -/
structure CelV (d : D) : Prop where
  ty : (tyD d).isSome = true
  it : ∀ l, d = .tup l ∨ d = .lst l → l.length ≤ 900 ∧ ∀ x ∈ l, (tyD x).isSome = true
def seqOf : D → Option (List D)
  | .lst l => some l
  | .tup l => some l
  | _ => none
/-- different cells of n, all of them if whole -/
def cellsB (n : Nat) (whole : Bool) (d : D) : Bool := match seqOf d with
  | some l => l.all (cellB n) && (match iL l with | some a => decide a.Nodup | none => false) && (!whole || decide (n ≤ l.length))
  | none => false
theorem need_cells_ok {G : List (List Nat)} (p : Pat G) {pd d : D} {w : Bool} (hp : Sq (rowsD G) pd) (h : CelV d) : wpF (F_need_cells [pd, d, .bl w]) (fun _ r => r = .non ∧ cellsB G.length w d = true) fun x => x = .exn 2 [.int 0] ∧ cellsB G.length w d = false := by
  unfold F_need_cells
  refine wpF_fnOf ?_
  show wp _ [some (0, pd), some (0, d), some (0, .bl w), none] _ _
  have lenp : lenD pd = some (.int G.length) := by rcases hp with rfl | rfl <;> simp
  cases d <;> first | (simp [isTy, tyD, Ty.own, cellsB, seqOf] <;> done) | (have := h.ty; simp [tyD] at this; done) | skip
  all_goals
    rename_i l
    obtain ⟨hl, hx⟩ := h.it l (by simp)
    generalize hb : cellsB G.length w _ = b
    simp [isTy, tyD, Ty.own]
    refine wp_lcA (fun x => .bl (cellB G.length x)) (by simp [idle]) (by rw [sz1]; omega) (fun x hm => ?_) ?_
    · simp [wipeE, t6_0, permD]
      refine wpF_is (is_integer_ok (hx x hm)) fun fr => ?_
      rcases hp with rfl | rfl
      all_goals
        have := hx x hm
        cases x <;> first | (simp [isI, cellB, wipeE]; done) | skip
        rename_i i
        simp [isI, cellB, wipeE]
        by_cases h : 0 ≤ i <;> simp [h] <;> omega
    · simp [all_map]
      simp only [cellsB, seqOf] at hb
      cases hc : l.all (cellB G.length) with
      | false =>
        rw [hc] at hb
        refine .inl ⟨?_, by simpa using hb.symm⟩
        rw [List.all_eq_false] at hc
        simpa using hc
      | true =>
        refine .inr ⟨List.all_eq_true.mp hc, ?_⟩
        rw [hc] at hb
        obtain ⟨a, rfl, h2, h3⟩ := cells_ok hc
        have hla : a.length ≤ 900 := by simpa using hl
        rw [h2] at hb
        refine ⟨_, ⟨_, setD_ints (by omega), rfl⟩, _, len_set, _, bs_lt, ?_⟩
        have h4 := ddI_len (l := a)
        have h5 := ddI_len_eq (l := a)
        by_cases nd : a.Nodup
        · have h6 := h5.mpr nd
          simp only [List.length_map, h6, Int.lt_irrefl, decide_false, tr_bl, Bool.true_and, nd, decide_true] at hb ⊢
          refine .inl ⟨trivial, ?_⟩
          cases w with
          | false => exact .inl ⟨rfl, by simpa using hb.symm⟩
          | true =>
            refine .inr ⟨rfl, _, lenp, _, bs_lt, ?_⟩
            by_cases hz : a.length < G.length
            · refine .inr ⟨by simpa using hz, ?_⟩
              rw [← hb]
              simp
              omega
            · refine .inl ⟨by simp; omega, ?_⟩
              rw [← hb]
              simp
              omega
        · have h6 : (ddI a).length < a.length := by
            have : (ddI a).length ≠ a.length := fun z => nd (h5.mp z)
            omega
          refine .inr ⟨by simpa using h6, ?_⟩
          rw [← hb]
          simp [nd]
end K

set_option maxHeartbeats 1000000
namespace K
open PySem PySem.Spec PyProof.Rows L2 G LamX
theorem Sq.len {l : List D} {d : D} (h : Sq l d) : lenD d = some (.int l.length) := by rcases h with rfl | rfl <;> rfl
theorem Sq.inn {l : List D} {x d : D} (h : Sq l d) : inD x d = anyEq x l := by rcases h with rfl | rfl <;> rfl
theorem Sq.sort {l : List D} {d : D} (h : Sq l d) : sortB d = (sortD l).map .lst := by rcases h with rfl | rfl <;> rfl
theorem Sq.idx {l : List D} {d : D} {i : Int} (h : Sq l d) : idxD d (.int i) = L2.atI l i := by rcases h with rfl | rfl <;> rfl
theorem Sq.cut {l : List D} {d : D} {n : Nat} (h : Sq l d) : ∃ d', slcD none (some (n : Int)) d = some d' ∧ Sq (l.take n) d' := by
  rcases h with rfl | rfl
  · exact ⟨_, rfl, .inl (by rw [cut_take])⟩
  · exact ⟨_, rfl, .inr (by rw [cut_take])⟩
theorem Sq.ok1 {l : List D} {d : D} (h : Sq l d) : G.ok1 0 d = true := ok1_0
/-- the row of a cell -/
def rowOf (G : List (List Nat)) (o : Nat) : List Nat := G.getD o []
theorem at_row {G : List (List Nat)} {o : Nat} (h : o < G.length) : (rowsD G)[o]? = some (rowD (rowOf G o)) := by
  rw [List.getElem?_map, List.getElem?_eq_getElem h]
  simp [rowOf, List.getD, h]
/-- the cells that are held -/
def heldN (G : List (List Nat)) (a : List Nat) : List Nat := (sortN a).filter fun c => ((List.range G.length).filter fun o => !decide (o ∈ a)).any fun o => decide (c ∈ rowOf G o)
theorem held_by_ok {P : List (List Nat)} (p : Pat P) {pd d : D} {a : List Nat} (hp : Sq (rowsD P) pd) (hd : Sq (cs a) d) (ha : a.length ≤ 100) : wpF (F_held_by [pd, d]) (fun fr r => fr = true ∧ r = .lst (cs (heldN P a))) fun _ => False := by
  unfold F_held_by
  refine wpF_fnOf ?_
  show wp _ [some (0, pd), some (0, d), none, none, none] _ _
  have hG := p.len
  simp [hp.len]
  refine ⟨_, ⟨by omega, rfl⟩, ?_⟩
  rw [range_cs]
  have atR : ∀ {o : Nat}, o < P.length → L2.atI (rowsD P) (o : Int) = some (rowD (rowOf P o)) := fun ho => _root_.G.atI_nat (at_row ho)
  refine wp_lcG (fun c => !decide (c ∈ a)) (fun c => .int c) (by simp [idle]) (by rw [sz1, List.length_range]; omega) (fun c hc => ?_) ?_
  · simp [wipeE, hd.inn, anyEq_cs]
    by_cases h : c ∈ a <;> simp [h]
  · simp [hd.sort, sortD_cs]
    obtain ⟨left, hleft⟩ : ∃ left, left = (List.range P.length).filter fun c => !decide (c ∈ a) := ⟨_, rfl⟩
    have hll : left.length ≤ 10 := by
      have := List.length_filter_le (fun o => !decide (o ∈ a)) (List.range P.length)
      rw [List.length_range] at this
      rw [hleft]; omega
    have hlt : ∀ o ∈ left, o < P.length := fun o ho => List.mem_range.mp (List.mem_filter.mp (by rw [← hleft]; exact ho)).1
    have e1 : heldN P a = (sortN a).filter fun c => left.any fun o => decide (c ∈ rowOf P o) := by rw [hleft]; rfl
    rw [← hleft, e1]
    refine wp_lcJ (fun w => ∃ m, w = [some (0, pd), some (0, d), some (m, .lst (cs left)), none, none]) (fun c => left.any fun o => decide (c ∈ rowOf P o)) (fun c => .int c) (by simp [idle]) (by rw [sz1, sortN_perm.length_eq]; omega) ⟨1, by simp [wipeE]⟩ (fun c hc w ⟨m, hw⟩ => ?_) fun w ⟨m, hw⟩ => ?_
    · subst hw
      simp
      refine wp_lcGA (fun o => .bl (decide (c ∈ rowOf P o))) (by simp [idle]) (by rw [sz1]; omega) (fun o ho => ?_) ?_
      · simp [wipeE, hp.idx, atR (hlt o ho), rowD, anyEq_cs]
        by_cases h : c ∈ rowOf P o <;> simp [h]
      · simp only [any_map]
        cases h : left.any fun o => decide (c ∈ rowOf P o) with
        | false =>
          have h2 : ∀ x ∈ left, c ∉ rowOf P x := by simpa using h
          simp [wipeE]
          exact h2
        | true =>
          have h2 : ∃ x ∈ left, c ∈ rowOf P x := by simpa using h
          simp [wipeE]
          exact h2
    · rfl
theorem celV_cs {a : List Nat} {d : D} (hd : Sq (cs a) d) (ha : a.length ≤ 900) : CelV d := by
  refine ⟨by rcases hd with rfl | rfl <;> rfl, fun l e => ?_⟩
  have : l = cs a := by
    rcases hd with rfl | rfl <;> rcases e with e | e <;> cases e <;> rfl
  subst this
  refine ⟨by simpa using ha, fun x hx => ?_⟩
  obtain ⟨c, _, rfl⟩ := List.mem_map.mp hx
  rfl
theorem cellsB_cs {a : List Nat} {n : Nat} {w : Bool} {d : D} (hd : Sq (cs a) d) (nd : a.Nodup) (lt : ∀ c ∈ a, c < n) (hw : w = true → n ≤ a.length) : cellsB n w d = true := by
  have e : seqOf d = some (cs a) := by rcases hd with rfl | rfl <;> rfl
  unfold cellsB
  rw [e]
  simp only [iL_cs, Bool.and_eq_true, List.all_eq_true, decide_eq_true_eq, Bool.or_eq_true, Bool.not_eq_true']
  refine ⟨⟨fun x hx => ?_, ?_⟩, ?_⟩
  · obtain ⟨c, hc, rfl⟩ := List.mem_map.mp hx
    have := lt c hc
    simp [cellB]
    omega
  · exact List.Pairwise.map _ (fun a b h => by omega) nd
  · cases w with
    | false => exact .inl rfl
    | true => exact .inr (by simpa using hw rfl)
/-- cells that are done -/
structure Done (n : Nat) (a : List Nat) : Prop where
  nd : a.Nodup
  lt : ∀ c ∈ a, c < n
theorem Done.len {n : Nat} {a : List Nat} (h : Done n a) : a.length ≤ n := by
  have : a ⊆ List.range n := fun c hc => List.mem_range.mpr (h.lt c hc)
  simpa using h.nd.length_le_of_subset this
theorem Pat.sq {P : List (List Nat)} (p : Pat P) {pd : D} (hp : Sq (rowsD P) pd) : PatV pd ∧ wrongB pd = .non := by
  rcases hp with rfl | rfl
  · exact ⟨p.v.1, p.wrong⟩
  · exact ⟨p.v.2, p.wrong⟩
theorem held_ok {P : List (List Nat)} (p : Pat P) {pd d : D} {a : List Nat} (hp : Sq (rowsD P) pd) (hd : Sq (cs a) d) (ha : Done P.length a) : wpF (F_held [pd, d]) (fun fr r => fr = true ∧ r = .lst (cs (heldN P a))) fun _ => False := by
  unfold F_held
  refine wpF_fnOf ?_
  show wp _ [some (0, pd), some (0, d)] _ _
  have hl := ha.len
  have hG := p.len
  simp [permD, t9_4, t9_5, t9_7]
  refine wpF_is (need_pattern_ok (p.sq hp).1 (p.sq hp).2) fun fr => ?_
  refine wpF_mono (need_cells_ok p hp (celV_cs hd (by omega))) (fun fr r _ => ?_) fun x h => ?_
  · exact wpF_mono (held_by_ok p hp hd (by omega)) (fun fr r ⟨h1, h2⟩ => by subst h1 h2; simp) fun _ z => z
  · have := cellsB_cs (w := false) hd ha.nd ha.lt (fun z => nomatch z)
    rw [this] at h
    exact absurd h.2 (by decide)
end K

set_option maxHeartbeats 1000000
namespace K
open PySem PySem.Spec PyProof.Rows L2 G LamX
/-- a wrong pattern first -/
theorem held_er1 {pd d : D} (h : PatV pd) (hw : wrongB pd ≠ .non) : wpF (F_held [pd, d]) (fun _ _ => False) fun x => x = .exn 3 [wrongB pd] := by
  unfold F_held
  refine wpF_fnOf ?_
  show wp _ [some (0, pd), some (0, d)] _ _
  simp [permD, t9_4, t9_5, t9_7]
  exact wpF_mono (need_pattern_er h hw) (fun fr r z => z.elim) fun x z => z
theorem saved_er1 {pd d : D} (h : PatV pd) (hw : wrongB pd ≠ .non) : wpF (F_saved [pd, d]) (fun _ _ => False) fun x => x = .exn 3 [wrongB pd] := by
  unfold F_saved
  refine wpF_fnOf ?_
  show wp _ [some (0, pd), some (0, d), none] _ _
  simp [permD, t10_4, t10_5, t10_7]
  exact wpF_mono (need_pattern_er h hw) (fun fr r z => z.elim) fun x z => z
theorem held_er2 {P : List (List Nat)} (p : Pat P) {pd d : D} (hp : Sq (rowsD P) pd) (hd : CelV d) (hb : cellsB P.length false d = false) : wpF (F_held [pd, d]) (fun _ _ => False) fun x => x = .exn 2 [.int 0] := by
  unfold F_held
  refine wpF_fnOf ?_
  show wp _ [some (0, pd), some (0, d)] _ _
  simp [permD, t9_4, t9_5, t9_7]
  refine wpF_is (need_pattern_ok (p.sq hp).1 (p.sq hp).2) fun fr => ?_
  refine wpF_mono (need_cells_ok p hp hd) (fun fr r h => ?_) fun x h => h.1
  rw [hb] at h
  exact absurd h.2 (by decide)
theorem saved_er2 {P : List (List Nat)} (p : Pat P) {pd d : D} (hp : Sq (rowsD P) pd) (hd : CelV d) (hb : cellsB P.length true d = false) : wpF (F_saved [pd, d]) (fun _ _ => False) fun x => x = .exn 2 [.int 0] := by
  unfold F_saved
  refine wpF_fnOf ?_
  show wp _ [some (0, pd), some (0, d), none] _ _
  simp [permD, t10_4, t10_5, t10_7]
  refine wpF_is (need_pattern_ok (p.sq hp).1 (p.sq hp).2) fun fr => ?_
  refine wpF_mono (need_cells_ok p hp hd) (fun fr r h => ?_) fun x h => h.1
  rw [hb] at h
  exact absurd h.2 (by decide)
/-- the greatest of some numbers -/
def maxN (l : List Nat) : Nat := l.foldl max 0
theorem maxL_cs {l : List Nat} (h : l ≠ []) : maxLD (.lst (cs l)) = some (.int (maxN l : Nat)) := by
  unfold maxLD
  simp only [iL_cs]
  cases l with
  | nil => exact absurd rfl h
  | cons a r =>
    simp only [List.map_cons]
    have : ∀ (r : List Nat) (a : Nat), (r.map fun c : Nat => (c : Int)).foldl max (a : Int) = ((r.foldl max a : Nat) : Int) := by
      intro r
      induction r with
      | nil => intro a; rfl
      | cons b r ih =>
        intro a
        simp only [List.map_cons, List.foldl_cons]
        rw [← ih]
        congr 1
        omega
    rw [this]
    unfold maxN
    simp
theorem Done.take {n : Nat} {a : List Nat} (h : Done n a) (k : Nat) : Done n (a.take k) := ⟨h.nd.sublist (List.take_sublist k a), fun c hc => h.lt c (List.mem_of_mem_take hc)⟩
/-- an order: all cells -/
structure Whole (n : Nat) (a : List Nat) : Prop where
  d : Done n a
  l : a.length = n
/-- the greatest number of cells held on the way -/
def savedN (P : List (List Nat)) (a : List Nat) : Nat := maxN ((List.range a.length).map fun k => (heldN P (a.take (k + 1))).length)
theorem saved_ok {P : List (List Nat)} (p : Pat P) {pd d : D} {a : List Nat} (hp : Sq (rowsD P) pd) (hd : Sq (cs a) d) (ha : Whole P.length a) : wpF (F_saved [pd, d]) (fun fr r => r = .int (savedN P a : Nat)) fun _ => False := by
  unfold F_saved
  refine wpF_fnOf ?_
  show wp _ [some (0, pd), some (0, d), none] _ _
  have hl := ha.d.len
  have hG := p.len
  have hal := ha.l
  simp [permD, t10_4, t10_5, t10_7]
  refine wpF_is (need_pattern_ok (p.sq hp).1 (p.sq hp).2) fun fr => ?_
  refine wpF_mono (need_cells_ok p hp (celV_cs hd (by omega))) (fun fr r _ => ?_) fun x h => ?_
  · simp [hd.len]
    refine ⟨_, ⟨by omega, rfl⟩, ?_⟩
    rw [range_cs]
    refine wp_lcGA (fun k => .int ((heldN P (a.take (k + 1))).length : Nat)) (by simp [idle]) (by rw [sz1, List.length_range]; omega) (fun k hk => ?_) ?_
    · simp [wipeE]
      obtain ⟨d', h1, h2⟩ := hd.cut (n := k + 1)
      refine ⟨d', by simpa using h1, ?_⟩
      rw [show cs a = a.map _ from rfl, ← List.map_take] at h2
      rw [show permD [(0, pd), (_root_.G.top d', d')] [0, 1] = [pd, d'] from rfl, t10_7]
      exact wpF_mono (held_by_ok p hp h2 (by simp; omega)) (fun fr r ⟨h1, h2⟩ => by subst h1 h2; simp) fun _ z => z
    · have : (List.range a.length).map (fun k => D.int ((heldN P (a.take (k + 1))).length : Nat)) = cs ((List.range a.length).map fun k => (heldN P (a.take (k + 1))).length) := by
        simp [cs, List.map_map, Function.comp_def]
      rw [this, maxL_cs (fun z => by have := congrArg List.length z; simp only [List.length_map, List.length_range, List.length_nil] at this; omega)]
      rfl
  · have := cellsB_cs (w := true) hd ha.d.nd ha.d.lt (fun _ => by omega)
    rw [this] at h
    exact absurd h.2 (by decide)
/-- the pattern of offsets -/
def offP (n : Nat) (a : List Int) : List (List Nat) := (List.range n).map fun c : Nat => (List.range n).filter fun o : Nat => decide ((o : Int) - (c : Int) ∈ a)
theorem offsets_ok {n : Nat} {a : List Int} {d : D} (hn : 1 ≤ n ∧ n ≤ 10) (hd : Sq (a.map .int) d) (ha : a.length ≤ 100) : wpF (F_offsets [.int n, d]) (fun fr r => fr = true ∧ r = .lst (rowsD (offP n a))) fun _ => False := by
  unfold F_offsets
  refine wpF_fnOf ?_
  show wp _ [some (0, .int n), some (0, d), none, none, none, none] _ _
  simp [permD, t7_0]
  refine wpF_is (is_integer_ok rfl) fun fr => ?_
  simp [isI]
  have e1 : (1 : Int) ≤ (n : Int) := by omega
  have e2 : (n : Int) ≤ 10 := by omega
  have e3 : -1000000000 < (n : Int) ∧ (n : Int) < 1000000000 := by omega
  have e4 : rowsD (offP n a) = (List.range n).map fun c : Nat => rowD ((List.range n).filter fun o : Nat => decide ((o : Int) - (c : Int) ∈ a)) := by
    unfold offP rowsD
    rw [List.map_map]
    rfl
  rcases hd with rfl | rfl
  all_goals
    simp [e1, e2, isTy, tyD, Ty.own]
    refine .inr ?_
    refine wp_lcGA (fun _ => .bl true) (by simp [idle]) (by rw [sz1]; omega) (fun i hi => ?_) ?_
    · simp [wipeE, permD, t7_0]
      exact wpF_is (is_integer_ok rfl) fun fr => by simp [isI]
    · rw [all_map (f := fun _ => true)]
      simp [setD_ints (show a.length < 1000 by omega)]
      refine ⟨_, ⟨e3, rfl⟩, ?_⟩
      rw [range_cs]
      refine wp_lcGA (fun c : Nat => rowD ((List.range n).filter fun o : Nat => decide ((o : Int) - (c : Int) ∈ a))) (by simp [idle]) (by rw [sz1, List.length_range]; omega) (fun c hc => ?_) (by rw [e4])
      simp [wipeE]
      refine ⟨_, ⟨e3, rfl⟩, ?_⟩
      rw [range_cs]
      refine wp_lcG (fun o : Nat => decide ((o : Int) - (c : Int) ∈ a)) (fun o => .int o) (by simp [idle]) (by rw [sz1, List.length_range]; omega) (fun o ho => ?_) ?_
      · simp [wipeE, inD, iL_ints, ddI_mem]
        by_cases h : (o : Int) - (c : Int) ∈ a <;> simp [h]
      · simp [rowD]
theorem offsets_er1 {x d : D} (hx : (tyD x).isSome = true) (h : ∀ i : Int, x = .int i → i < 1 ∨ 10 < i) : wpF (F_offsets [x, d]) (fun _ _ => False) fun y => y = .exn 3 [.int 0] := by
  unfold F_offsets
  refine wpF_fnOf ?_
  show wp _ [some (0, x), some (0, d), none, none, none, none] _ _
  simp [permD, t7_0]
  refine wpF_is (is_integer_ok hx) fun fr => ?_
  cases x <;> first | (simp [isI]; done) | skip
  rename_i i
  simp [isI]
  rcases h i rfl with h | h
  · simp [h, show ¬ (1 : Int) ≤ i by omega]
    try omega
  · simp [h]
    try omega
theorem offsets_er2 {n : Nat} {d : D} (hn : 1 ≤ n ∧ n ≤ 10) (hd : CelV d) (h : ∀ l, seqOf d = some l → l.all isI = false) : wpF (F_offsets [.int n, d]) (fun _ _ => False) fun y => y = .exn 3 [.int 1] := by
  unfold F_offsets
  refine wpF_fnOf ?_
  show wp _ [some (0, .int n), some (0, d), none, none, none, none] _ _
  simp [permD, t7_0]
  refine wpF_is (is_integer_ok rfl) fun fr => ?_
  have e1 : (1 : Int) ≤ (n : Int) := by omega
  have e2 : (n : Int) ≤ 10 := by omega
  have e5 : ¬ (n : Int) < 1 := by omega
  have e6 : ¬ (10 : Int) < (n : Int) := by omega
  cases d <;> first | (simp [isI, e1, e2, e5, e6, isTy, tyD, Ty.own] <;> done) | (have := hd.ty; simp [tyD] at this; done) | skip
  all_goals
    rename_i l
    obtain ⟨hl, hx⟩ := hd.it l (by simp)
    have hb := h l rfl
    simp [isI, e1, e2, e5, e6, isTy, tyD, Ty.own]
    refine wp_lcA (fun x => .bl (isI x)) (by simp [idle]) (by rw [sz1]; omega) (fun i hi => ?_) ?_
    · simp [wipeE, permD, t7_0]
      exact wpF_is (is_integer_ok (hx i hi)) fun fr => by simp
    · rw [all_map, hb]
      simp
end K

set_option maxHeartbeats 1000000
namespace K
open PySem PySem.Spec PyProof.Rows L2 G LamX
/-! ### the law's own words -/
theorem pick_ok {l : List D} (hl : l ≠ []) (h2 : l.length < 1000) {P : D → Prop} (h : ∀ x ∈ l, P x) : wpF (F__law_pick [.rnd, .lst l]) (fun _ d => P d) fun _ => False := by
  have hp := List.length_pos_iff.mpr hl
  unfold F__law_pick
  refine wpF_fnOf ?_
  show wp _ [some (0, .rnd), some (0, .lst l)] _ _
  simp [permD, t12_11]
  refine wpF_draw ⟨by omega, by omega⟩ fun i hi => ?_
  have hi' : i < l.length := by omega
  simp [atI_nat' hi']
  exact h _ (List.getElem_mem hi')
theorem erase_perm {α : Type} : ∀ {r : List α} {i : Nat} (h : i < r.length), ([r[i]] ++ r.eraseIdx i).Perm r
  | x :: r, 0, h => .refl _
  | x :: r, i + 1, h => by
    have ih := erase_perm (r := r) (i := i) (by simpa using h)
    simp only [List.getElem_cons_succ, List.eraseIdx_cons_succ]
    exact (List.Perm.swap x _ _).trans (ih.cons x)
theorem erase_map {α β : Type} {f : α → β} : ∀ {l : List α} {i : Nat}, (l.map f).eraseIdx i = (l.eraseIdx i).map f
  | [], _ => rfl
  | _ :: _, 0 => rfl
  | x :: l, i + 1 => by simp only [List.map_cons, List.eraseIdx_cons_succ, erase_map (l := l)]
theorem mixed_ok {l : List Nat} (hl : l.length ≤ 100) : wpF (F__law_mixed [.rnd, .lst (cs l)]) (fun fr d => ∃ a : List Nat, a.Perm l ∧ d = .lst (cs a)) fun _ => False := by
  unfold F__law_mixed
  refine wpF_fnOf ?_
  show wp _ [some (0, .rnd), some (0, .lst (cs l)), none, none] _ _
  simp
  rw [wp_whl]
  refine wp_whlL (fun n e => ∃ (r a : List Nat), (a ++ r).Perm l ∧ r.length = n ∧ e = [some (0, .rnd), some (0, .lst (cs l)), some (1, .lst (cs r)), some (1, .lst (cs a))]) _ l.length _ ⟨l, [], .refl _, rfl, by simp⟩ (by omega) fun n e ⟨r, a, h1, h2, h3⟩ => ?_
  subst h3
  have hlen := h1.length_eq
  rw [List.length_append] at hlen
  simp
  have e0 : eqD (.lst (cs r)) (.lst []) = some (decide (r = [])) := eqD_cs (b := [])
  rw [e0]
  by_cases hr : r = []
  · subst hr
    simp
    exact ⟨a, by simpa using h1, rfl⟩
  · have hp := List.length_pos_iff.mpr hr
    have hz := sz1
    simp [hr, permD, t13_11]
    refine wpF_draw ⟨by omega, by omega⟩ fun i hi => ?_
    have hi' : i < r.length := by omega
    refine ⟨.lst (cs (r.eraseIdx i)), .int (r[i] : Nat), ?_, _, ⟨by omega, rfl⟩, r.length - 1, by omega, r.eraseIdx i, a ++ [r[i]], ?_, by rw [List.length_eraseIdx]; simp [hi'], rfl, by simp [cs]⟩
    · rw [ms_pop1, if_pos (by simp; omega), _root_.G.ixN_k (by simpa using hi')]
      simp [hi', cs, erase_map]
    · refine List.Perm.trans ?_ h1
      rw [List.append_assoc]
      exact List.Perm.append_left a (erase_perm hi')
/-- rows of numbers, any ascending below n -/
theorem asc_filter {n : Nat} {f : Nat → Bool} : Asc ((List.range n).filter f) ∧ ∀ c ∈ (List.range n).filter f, c < n :=
  ⟨(List.pairwise_lt_range (n := n)).sublist List.filter_sublist, fun c hc => List.mem_range.mp (List.mem_filter.mp hc).1⟩
theorem asc_sub {n : Nat} {l : List Nat} (h : l.Sublist (List.range n)) : Asc l ∧ ∀ c ∈ l, c < n :=
  ⟨(List.pairwise_lt_range (n := n)).sublist h, fun c hc => List.mem_range.mp (h.subset hc)⟩
theorem zs_ints {α : Type} {b : Int} : ∀ {zs : List (α × D)}, (∀ z ∈ zs, ∃ i : Int, z.2 = .int i ∧ i.natAbs ≤ b) → ∃ a : List Int, zs.map (·.2) = a.map .int ∧ a.length = zs.length ∧ ∀ i ∈ a, i.natAbs ≤ b
  | [], _ => ⟨[], rfl, rfl, fun _ h => nomatch h⟩
  | z :: zs, h => by
    obtain ⟨a, h1, h2, h3⟩ := zs_ints fun y hy => h y (List.mem_cons_of_mem _ hy)
    obtain ⟨i, e, hi⟩ := h z List.mem_cons_self
    refine ⟨i :: a, by simp [h1, e], by simp [h2], fun j hj => ?_⟩
    rcases List.mem_cons.mp hj with rfl | hj
    · exact hi
    · exact h3 j hj
theorem zs_rows {n : Nat} : ∀ {zs : List (Nat × D)}, (∀ z ∈ zs, ∃ r : List Nat, z.2 = rowD r ∧ Asc r ∧ ∀ c ∈ r, c < n) → ∃ P : List (List Nat), zs.map (·.2) = rowsD P ∧ P.length = zs.length ∧ ∀ r ∈ P, Asc r ∧ ∀ c ∈ r, c < n
  | [], _ => ⟨[], rfl, rfl, fun _ h => nomatch h⟩
  | z :: zs, h => by
    obtain ⟨a, h1, h2, h3⟩ := zs_rows fun y hy => h y (List.mem_cons_of_mem _ hy)
    obtain ⟨i, e, hi⟩ := h z List.mem_cons_self
    refine ⟨i :: a, by simp [h1, e], by simp [h2], fun j hj => ?_⟩
    rcases List.mem_cons.mp hj with rfl | hj
    · exact hi
    · exact h3 j hj
theorem grid_ok : wpF (F__law_grid [.rnd, .int 10]) (fun fr d => ∃ P, Pat P ∧ fr = true ∧ d = .lst (rowsD P)) fun _ => False := by
  unfold F__law_grid
  refine wpF_fnOf ?_
  show wp _ [some (0, .rnd), some (0, .int 10), none, none, none, none, none, none, none] _ _
  simp [permD, t14_11]
  refine wpF_draw ⟨by decide, by decide⟩ fun n0 hn0 => ?_
  obtain ⟨n, hn⟩ : ∃ n : Nat, n = n0 + 1 := ⟨_, rfl⟩
  have en : (1 : Int) + (n0 : Int) = (n : Int) := by omega
  have hn1 : 1 ≤ n ∧ n ≤ 10 := by omega
  have hn3 : -1000000000 < (n : Int) ∧ (n : Int) < 1000000000 := by omega
  refine ⟨_, rfl, ?_⟩
  rw [en]
  refine wpF_draw ⟨by decide, by decide⟩ fun w hw => ?_
  rw [eqD_int]
  have fin : ∀ zs : List (Nat × D), zs.map (·.1) = List.range n → (∀ z ∈ zs, ∃ r : List Nat, z.2 = rowD r ∧ Asc r ∧ ∀ c ∈ r, c < n) → ∃ P, Pat P ∧ zs.map (·.2) = rowsD P := fun zs h1 h2 => by
    obtain ⟨P, e1, e2, e3⟩ := zs_rows h2
    have := congrArg List.length h1
    rw [List.length_map, List.length_range] at this
    have hP : P.length = n := by omega
    exact ⟨P, ⟨by omega, by rw [hP]; exact e3⟩, e1⟩
  by_cases hw0 : w = 0
  · subst hw0
    simp
    refine wpF_draw ⟨by decide, by decide⟩ fun k hk => ?_
    refine ⟨_, rfl, _, by rw [is_r1, if_pos (by omega)], ?_⟩
    rw [show (1 : Int) + (k : Int) = ((k + 1 : Nat) : Int) by omega, range_cs]
    refine wp_lcRA (fun _ y => ∃ i : Int, y = .int i ∧ (i.natAbs : Int) ≤ 4) (by simp [idle]) (by rw [sz1, List.length_range]; omega) (fun c hc => ?_) fun zs h1 h2 => ?_
    · simp [wipeE, permD, t14_11]
      refine wpF_draw ⟨by decide, by decide⟩ fun i hi => ⟨_, rfl, _, rfl, by omega⟩
    · obtain ⟨a, e1, e2, e3⟩ := zs_ints h2
      rw [e1]
      simp
      refine ⟨_, ⟨hn3, rfl⟩, ?_⟩
      rw [range_cs]
      refine wp_lcRA (fun _ y => ∃ r : List Nat, y = rowD r ∧ Asc r ∧ ∀ c ∈ r, c < n) (by simp [idle]) (by rw [sz1, List.length_range]; omega) (fun c hc => ?_) fin
      simp [wipeE]
      refine ⟨_, ⟨hn3, rfl⟩, ?_⟩
      rw [range_cs]
      refine wp_lcG (fun o : Nat => decide ((o : Int) - (c : Int) ∈ a)) (fun o => .int o) (by simp [idle]) (by rw [sz1, List.length_range]; omega) (fun o ho => ?_) ?_
      · simp [wipeE, anyEq_ints]
        by_cases h : (o : Int) - (c : Int) ∈ a <;> simp [h]
      · simp
        exact ⟨_, rfl, asc_filter⟩
  · simp [hw0]
    refine wpF_draw ⟨by decide, by decide⟩ fun b hb => ?_
    obtain ⟨v, hv⟩ : ∃ v : Int, idxD (.lst [.int 1, .int 2, .int 4, .int (1 + (b : Int))]) (.int ((w : Int) - 1)) = some (.int v) := by
      have : w = 1 ∨ w = 2 ∨ w = 3 ∨ w = 4 := by omega
      rcases this with rfl | rfl | rfl | rfl
      · exact ⟨_, atI_0⟩
      · exact ⟨_, atI_1⟩
      · exact ⟨_, atI_2⟩
      · exact ⟨_, atI_3⟩
    refine ⟨_, rfl, _, hv, _, ⟨hn3, rfl⟩, ?_⟩
    rw [range_cs]
    refine wp_lcRA (fun _ y => ∃ r : List Nat, y = rowD r ∧ Asc r ∧ ∀ c ∈ r, c < n) (by simp [idle]) (by rw [sz1, List.length_range]; omega) (fun c hc => ?_) fin
    simp [wipeE]
    refine ⟨_, ⟨hn3, rfl⟩, ?_⟩
    rw [range_cs]
    refine wp_lcR (fun o y => y = .int (o : Nat)) (by simp [idle]) (by rw [sz1, List.length_range]; omega) (fun o ho => ?_) fun zs h1 h2 => ?_
    · simp [wipeE, permD, t14_11]
      refine wpF_draw ⟨by decide, by decide⟩ fun i hi => ?_
      by_cases h : (i : Int) < v <;> simp [h] <;> omega
    · simp
      have e1 : zs.map (·.2) = cs (zs.map (·.1)) := by
        simp only [cs, List.map_map]
        exact List.map_congr_left fun z hz => h2 z hz
      exact ⟨zs.map (·.1), by rw [e1, rowD], asc_sub h1⟩
end K

set_option maxHeartbeats 1000000
namespace K
open PySem PySem.Spec PyProof.Rows L2 G LamX
/-- the law's held cells -/
def keptN (P : List (List Nat)) (a : List Nat) : List Nat := (List.range P.length).filter fun c => decide (c ∈ a) && ((List.range P.length).filter fun o => !decide (o ∈ a)).any fun o => decide (c ∈ rowOf P o)
theorem held_kept {P : List (List Nat)} {a : List Nat} (h : Done P.length a) : heldN P a = keptN P a := by
  unfold heldN keptN
  rw [sortN_range h.nd h.lt, List.filter_filter]
  refine List.filter_congr fun c _ => ?_
  rw [Bool.and_comm]
theorem kept_ok {P : List (List Nat)} (p : Pat P) {pd d : D} {a : List Nat} (hp : Sq (rowsD P) pd) (hd : Sq (cs a) d) : wpF (F__law_kept [pd, d]) (fun fr r => fr = true ∧ r = .lst (cs (keptN P a))) fun _ => False := by
  unfold F__law_kept
  refine wpF_fnOf ?_
  show wp _ [some (0, pd), some (0, d), none, none, none] _ _
  have hG := p.len
  have hz := sz1
  have hn3 : -1000000000 < (P.length : Int) ∧ (P.length : Int) < 1000000000 := by omega
  simp [hp.len]
  refine ⟨_, ⟨hn3, rfl⟩, ?_⟩
  rw [range_cs]
  have atR : ∀ {o : Nat}, o < P.length → L2.atI (rowsD P) (o : Int) = some (rowD (rowOf P o)) := fun ho => _root_.G.atI_nat (at_row ho)
  refine wp_lcG (fun c => !decide (c ∈ a)) (fun c => .int c) (by simp [idle]) (by rw [List.length_range]; omega) (fun c hc => ?_) ?_
  · simp [wipeE, hd.inn, anyEq_cs]
    by_cases h : c ∈ a <;> simp [h]
  · obtain ⟨left, hleft⟩ : ∃ left, left = (List.range P.length).filter fun c => !decide (c ∈ a) := ⟨_, rfl⟩
    have hll : left.length ≤ 10 := by
      have := List.length_filter_le (fun o => !decide (o ∈ a)) (List.range P.length)
      rw [List.length_range] at this
      rw [hleft]; omega
    have hlt : ∀ o ∈ left, o < P.length := fun o ho => List.mem_range.mp (List.mem_filter.mp (by rw [← hleft]; exact ho)).1
    have e1 : keptN P a = (List.range P.length).filter fun c => decide (c ∈ a) && left.any fun o => decide (c ∈ rowOf P o) := by rw [hleft]; rfl
    rw [← hleft, e1]
    simp [hp.len]
    refine ⟨_, ⟨hn3, rfl⟩, ?_⟩
    rw [range_cs]
    refine wp_lcJ (fun w => ∃ m, w = [some (0, pd), some (0, d), some (m, .lst (cs left)), none, none]) (fun c => decide (c ∈ a) && left.any fun o => decide (c ∈ rowOf P o)) (fun c => .int c) (by simp [idle]) (by rw [List.length_range]; omega) ⟨1, by simp [wipeE]⟩ (fun c hc w ⟨m, hw⟩ => ?_) fun w ⟨m, hw⟩ => ?_
    · subst hw
      simp [hd.inn, anyEq_cs]
      by_cases hca : c ∈ a
      · simp [hca]
        refine wp_lcG (fun o => decide (c ∈ rowOf P o)) (fun o => .int o) (by simp [idle]) (by omega) (fun o ho => ?_) ?_
        · simp [wipeE, hp.idx, atR (hlt o ho), rowD, anyEq_cs]
          by_cases h : c ∈ rowOf P o <;> simp [h]
        · rw [show (List.map (fun o : Nat => D.int (o : Int)) (left.filter fun o => decide (c ∈ rowOf P o))) = cs (left.filter fun o => decide (c ∈ rowOf P o)) from rfl]
          have e0 : eqD (.lst (cs (left.filter fun o => decide (c ∈ rowOf P o)))) (.lst []) = some (decide (left.filter (fun o => decide (c ∈ rowOf P o)) = [])) := eqD_cs (b := [])
          simp only [e0]
          by_cases h : ∃ o ∈ left, c ∈ rowOf P o
          · have : ¬ (left.filter fun o => decide (c ∈ rowOf P o)) = [] := by
              obtain ⟨o, h1, h2⟩ := h
              intro z
              have := List.filter_eq_nil_iff.mp z o h1
              simp [h2] at this
            simp [this, wipeE]
            exact h
          · have h' : ∀ o ∈ left, c ∉ rowOf P o := fun o h1 h2 => h ⟨o, h1, h2⟩
            have : (left.filter fun o => decide (c ∈ rowOf P o)) = [] := List.filter_eq_nil_iff.mpr fun o ho => by simpa using h' o ho
            simp [this, wipeE]
            exact h'
      · simp [hca, wipeE]
    · subst hw
      rfl
theorem most_ok {P : List (List Nat)} (p : Pat P) {pd d : D} {a : List Nat} (hp : Sq (rowsD P) pd) (hd : Sq (cs a) d) (ha : Whole P.length a) : wpF (F__law_most [pd, d]) (fun fr r => r = .int (savedN P a : Nat)) fun _ => False := by
  unfold F__law_most
  refine wpF_fnOf ?_
  show wp _ [some (0, pd), some (0, d), none] _ _
  have hG := p.len
  have hz := sz1
  have hal := ha.l
  simp [hd.len]
  refine ⟨_, ⟨by omega, rfl⟩, ?_⟩
  rw [range_cs1]
  refine wp_lcGA (fun k => .int ((keptN P (a.take (k + 1))).length : Nat)) (by simp [idle]) (by rw [List.length_range]; omega) (fun k hk => ?_) ?_
  · simp [wipeE]
    obtain ⟨d', h1, h2⟩ := hd.cut (n := k + 1)
    refine ⟨d', by simpa using h1, ?_⟩
    rw [show cs a = a.map _ from rfl, ← List.map_take] at h2
    rw [show permD [(0, pd), (_root_.G.top d', d')] [0, 1] = [pd, d'] from rfl, t16_15]
    exact wpF_mono (kept_ok p hp h2) (fun fr r ⟨h1, h2⟩ => by subst h1 h2; simp) fun _ z => z
  · have : (List.range a.length).map (fun k => D.int ((keptN P (a.take (k + 1))).length : Nat)) = cs ((List.range a.length).map fun k => (heldN P (a.take (k + 1))).length) := by
      simp only [cs, List.map_map]
      refine List.map_congr_left fun k _ => ?_
      simp only [Function.comp]
      rw [held_kept (ha.d.take _)]
    rw [this, maxL_cs (fun z => by have := congrArg List.length z; simp only [List.length_map, List.length_range, List.length_nil] at this; omega)]
    rfl
end K

set_option maxHeartbeats 1000000
namespace K
open PySem PySem.Spec PyProof.Rows L2 G LamX
/-- the law's word for an error -/
def wordOf : Nat → Str
  | 3 => "sweep"
  | 2 => "order"
  | _ => "cell"
theorem error_ok {lam : Lam} {k : Nat} {l : List D} {c : Nat} {i : D} (hc : c = 2 ∨ c = 3) (h : wpF (lam k l []) (fun _ _ => False) fun x => x = .exn c [i]) : wpF (F__law_error lam [.clo k l]) (fun _ r => r = .tup [.str (wordOf c), i]) fun _ => False := by
  unfold F__law_error
  refine wpF_fnOf ?_
  show wp _ [some (0, .clo k l), none, none, none, none, none, none] _ _
  simp
  rw [show withF T17 900 (cloF lam) 900 = cloF lam from withF_eq]
  refine wpF_er (t := cloF lam [.clo k l]) h ?_
  refine tryK_hit (by rcases hc with rfl | rfl <;> rfl) rfl (by rcases hc with rfl | rfl <;> rfl) ?_
  rw [wp_mb, wp_born, wps_setE]
  refine ⟨by simp, ?_⟩
  rw [wp_mb]
  refine wp_calm ?_
  have hz := sz1
  rcases hc with rfl | rfl
  all_goals
    simp
    refine ⟨_, rfl, _, rfl, _, rfl, _, ⟨by omega, rfl⟩, _, rfl, ?_⟩
    refine wp_lc (fun x => match x with | .tup [_, .bl b] => b | _ => false) eIdx (by simp [idle]) (by simp; omega) (fun x hm => ?_) ?_
    · simp only [List.mem_cons, List.not_mem_nil, or_false] at hm
      rcases hm with rfl | rfl | rfl <;> simp [wipeE]
    · simp [eqD_int]
      refine ⟨_, rfl, ?_⟩
      simp
      exact ⟨atI_0, rfl⟩
end K

set_option maxHeartbeats 1000000
namespace K
open PySem PySem.Spec PyProof.Rows L2 G LamX
/-- a row, cell by cell, behind the cell p -/
def scan (n : Nat) : Option Int → List D → Bool
  | _, [] => true
  | p, .int i :: r => decide (0 ≤ i) && (decide (i < (n : Int)) && ((match p with | none => true | some q => decide (q < i)) && scan n (some i) r))
  | _, _ :: _ => false
theorem scan_some {n : Nat} : ∀ {l : List D} {q : Int}, scan n (some q) l = (l.all (cellB n) && (match iL l with | some a => decide ((q :: a).Pairwise (· < ·)) | none => false))
  | [], q => by simp [scan, iL]
  | d :: r, q => by
    cases d <;> first | (simp [scan, cellB]; done) | skip
    rename_i i
    simp only [scan, List.all_cons, cellB, iL, scan_some (l := r) (q := i)]
    rw [Bool.eq_iff_iff]
    cases hr : iL r with
    | none => simp
    | some a =>
      simp only [Option.map_some, Bool.and_eq_true, decide_eq_true_eq, List.pairwise_cons, List.mem_cons]
      constructor
      · rintro ⟨h1, h2, h3, h4, h5, h6⟩
        exact ⟨⟨⟨h1, h2⟩, h4⟩, fun b hb => by
          rcases hb with rfl | hb
          · exact h3
          · have := h5 b hb; omega, h5, h6⟩
      · rintro ⟨⟨⟨h1, h2⟩, h4⟩, h3, h5, h6⟩
        exact ⟨h1, h2, h3 i (.inl rfl), h4, h5, h6⟩
theorem scan_row {n : Nat} {l : List D} : rowB n (.tup l) = scan n none l := by
  cases l with
  | nil => simp [rowB, scan, iL]
  | cons d r =>
    cases d <;> first | (simp [scan, rowB, cellB]; done) | skip
    rename_i i
    simp only [rowB, scan, List.all_cons, cellB, iL, scan_some]
    rw [Bool.eq_iff_iff]
    cases hr : iL r with
    | none => simp
    | some a => simp [and_assoc]
theorem firstNot_at {f : D → Bool} : ∀ {l : List D} {k : Nat} {x : D}, (∀ y ∈ l.take k, f y = true) → l[k]? = some x → f x = false → firstNot f l = .int (k : Nat)
  | [], k, x, _, h, _ => by simp at h
  | y :: l, 0, x, _, h, hx => by
    simp at h
    subst h
    unfold firstNot
    rw [if_neg (by rw [hx]; decide)]
    rfl
  | y :: l, k + 1, x, h1, h, hx => by
    have h2 := firstNot_at (f := f) (l := l) (k := k) (x := x) (fun z hz => h1 z (by simp [hz])) (by simpa using h) hx
    unfold firstNot
    rw [if_pos (h1 y (by simp)), h2]
    simp
theorem zip_drop {l : List D} {k : Nat} {x : D} (h : l[k]? = some x) : (l.drop k).zipIdx k = (x, k) :: (l.drop (k + 1)).zipIdx (k + 1) := by
  obtain ⟨hk, rfl⟩ := List.getElem?_eq_some_iff.mp h
  rw [List.drop_eq_getElem_cons hk, List.zipIdx_cons]
theorem zip_cons {l : List D} {k : Nat} {x : D × Nat} {r : List (D × Nat)} (h : x :: r = (l.drop k).zipIdx k) : l[k]? = some x.1 ∧ x.2 = k ∧ r = (l.drop (k + 1)).zipIdx (k + 1) := by
  cases hk : l[k]? with
  | none =>
    rw [List.drop_eq_nil_of_le (List.getElem?_eq_none_iff.mp hk)] at h
    simp at h
  | some y =>
    rw [zip_drop hk] at h
    simp only [List.cons.injEq] at h
    obtain ⟨rfl, rfl⟩ := h
    exact ⟨rfl, rfl, rfl⟩
theorem enum_zip {l : List D} : enumD l = ((l.drop 0).zipIdx 0).map fun (p : D × Nat) => D.tup [.int (p.2 : Int), p.1] := rfl
theorem wrong_ok {d : D} (h : PatV d) : wpF (F__law_wrong [d]) (fun _ r => r = wrongB d) fun _ => False := by
  unfold F__law_wrong
  refine wpF_fnOf ?_
  show wp _ [some (0, d), none, none, none, none] _ _
  cases d <;> first | (simp [isTy, tyD, Ty.own, wrongB] <;> done) | (have := h.ty; simp [tyD] at this; done) | skip
  all_goals
    rename_i l
    obtain ⟨hl, hx⟩ := h.it l (by simp)
    generalize hb : wrongB _ = b
    have hb : wrongL l = b := hb
    simp [isTy, tyD, Ty.own]
    by_cases h1 : l.length < 1
    · refine .inl ⟨by omega, .inl ⟨by omega, ?_⟩⟩
      rw [← hb]; unfold wrongL; rw [if_neg (by omega)]
    · refine .inr ⟨by omega, ?_⟩
      by_cases h2 : 10 < l.length
      · refine .inl ⟨by omega, ?_⟩
        rw [← hb]; unfold wrongL; rw [if_neg (by omega)]
      · refine .inr ⟨by omega, ?_⟩
        have hb : firstNot (rowB l.length) l = b := by rw [← hb]; unfold wrongL; rw [if_pos (by omega)]
        rw [enum_zip]
        have hz := sz1
        refine wp_forG (fun r e => ∃ k, r = (l.drop k).zipIdx k ∧ (∀ y ∈ l.take k, rowB l.length y = true) ∧ ∃ a b c f, e = [some (0, _), a, b, c, f]) _ _ ⟨0, rfl, by simp, _, _, _, _, rfl⟩ (fun x r e ⟨k, h3, h4, a1, a2, a3, a4, he⟩ => ?_) (fun e ⟨k, h3, h4, he⟩ => ?_)
        · subst he
          obtain ⟨y, k'⟩ := x
          obtain ⟨h5, h6, h7⟩ := zip_cons h3
          dsimp only at h5 h6
          subst h6
          have hy := hx y (List.mem_of_getElem? h5)
          have bad : rowB l.length y = false → D.int (k' : Int) = b := fun z => by rw [← hb, firstNot_at h4 h5 z]
          have good : rowB l.length y = true → ∀ z ∈ l.take (k' + 1), rowB l.length z = true := fun z w hw => by
            rw [List.take_add_one, h5] at hw
            rcases List.mem_append.mp hw with hw | hw
            · exact h4 w hw
            · simp at hw; rw [hw]; exact z
          have hty := hy.ty
          cases y <;> first | (simp [isTy, tyD, Ty.own]; exact bad rfl) | (simp [tyD] at hty; done) | skip
          rename_i cl _
          obtain ⟨hcl, hcx⟩ := hy.it cl rfl
          simp [isTy, tyD, Ty.own]
          rw [enum_zip]
          rw [scan_row] at bad good
          refine wp_forG (fun r e => ∃ j p, r = (cl.drop j).zipIdx j ∧ scan l.length none cl = scan l.length p (cl.drop j) ∧ ((j = 0 ∧ p = none) ∨ ∃ q, 0 < j ∧ p = some q ∧ cl[j - 1]? = some (.int q)) ∧ ∃ c f, e = [some (0, _), some (0, .int k'), some (0, .tup cl), c, f]) _ _ ⟨0, none, rfl, rfl, .inl ⟨rfl, rfl⟩, _, _, rfl⟩ (fun x r e ⟨j, p, j1, j2, j3, b3, b4, he⟩ => ?_) (fun e ⟨j, p, j1, j2, j3, b3, b4, he⟩ => ?_)
          · subst he
            obtain ⟨c, j'⟩ := x
            obtain ⟨j5, j6, j7⟩ := zip_cons j1
            dsimp only at j5 j6
            subst j6
            have hdr : cl.drop j' = c :: cl.drop (j' + 1) := by
              obtain ⟨hk, rfl⟩ := List.getElem?_eq_some_iff.mp j5
              rw [List.drop_eq_getElem_cons hk]
            rw [hdr] at j2
            have hct := hcx c (List.mem_of_getElem? j5)
            cases c <;> first | (simp [isTy, tyD, Ty.own]; exact bad (by rw [j2]; rfl)) | (simp [tyD] at hct; done) | skip
            rename_i i _
            simp [isTy, tyD, Ty.own]
            simp only [scan] at j2
            by_cases i0 : i < 0
            · exact .inl ⟨i0, .inl ⟨i0, bad (by rw [j2]; simp; intro z; omega)⟩⟩
            · refine .inr ⟨by omega, ?_⟩
              by_cases i1 : (l.length : Int) ≤ i
              · exact .inl ⟨i1, bad (by rw [j2]; simp; intro _ z; omega)⟩
              · refine .inr ⟨by omega, ?_⟩
                have i2 : decide (0 ≤ i) = true := by simp; omega
                have i3 : decide (i < (l.length : Int)) = true := by simp; omega
                rw [i2, i3] at j2
                have nxt : ∀ z, cl[j' + 1 - 1]? = some (.int z) ↔ z = i := fun z => by
                  rw [Nat.add_sub_cancel, j5]
                  simp [eq_comm]
                rcases j3 with ⟨j0, pn⟩ | ⟨q, jp, pq, cq⟩
                · subst pn
                  refine .inl ⟨j0, j' + 1, j7, some i, by simpa using j2, .inr ⟨by omega, i, rfl, (nxt i).mpr rfl⟩⟩
                · subst pq
                  refine .inr ⟨jp, .int q, ?_, _, bs_lt, ?_⟩
                  · rw [show ((j' : Int) - 1) = ((j' - 1 : Nat) : Int) by omega]
                    exact _root_.G.atI_nat cq
                  · by_cases qi : q < i
                    · refine .inr ⟨by simpa using qi, j' + 1, j7, some i, by simpa [qi] using j2, .inr ⟨by omega, i, rfl, (nxt i).mpr rfl⟩⟩
                    · exact .inl ⟨by simpa using qi, bad (by rw [j2]; simp [qi])⟩
          · subst he
            have hj : cl.length ≤ j := by
              have := congrArg List.length j1
              simp at this
              omega
            rw [List.drop_eq_nil_of_le hj] at j2
            have j2 : scan l.length none cl = true := by rw [j2]; rfl
            exact ⟨k' + 1, h7, good j2, _, _, _, _, rfl⟩
        · have hk : l.length ≤ k := by
            have := congrArg List.length h3
            simp at this
            omega
          rw [List.take_of_length_le hk] at h4
          show D.non = b
          rw [← hb, firstNot_all h4]
end K

set_option maxHeartbeats 1000000
namespace K
open PySem PySem.Spec PyProof.Rows L2 G LamX
/-! ### values like patterns, changed -/
/-- what the law may make: it can be asked, it is told, no function is in it -/
structure Bnt (d : D) : Prop where
  v : PatV d
  t : ∃ s : Str, reprD d = some (.str s)
  n : d.noClo = true
def atmB (x : D) : Bool := (tyD x).isSome && x.vok && x.noClo && decide (x.dp ≤ 10) && decide (x.sz ≤ 100)
def itmB (x : D) : Bool := (tyD x).isSome && (match x with | .tup l => decide (l.length < 64) && l.all (fun y => (tyD y).isSome) | _ => true) && x.vok && x.noClo && decide (x.dp ≤ 20) && decide (x.sz ≤ 5000)
theorem atms {l : List D} (h : ∀ x ∈ l, atmB x = true) : D.voks l = true ∧ D.noClos l = true ∧ D.dps l ≤ 10 ∧ D.szs l ≤ 101 * l.length ∧ (l.all fun y => (tyD y).isSome) = true := by
  induction l with
  | nil => exact ⟨rfl, rfl, Nat.zero_le _, Nat.le_refl _, rfl⟩
  | cons x r ih =>
    obtain ⟨h1, h2, h3, h4, h5⟩ := ih fun y hy => h y (List.mem_cons_of_mem _ hy)
    have := h x List.mem_cons_self
    simp only [atmB, Bool.and_eq_true, decide_eq_true_eq] at this
    obtain ⟨⟨⟨⟨a, b⟩, c⟩, d⟩, e⟩ := this
    refine ⟨by simp [D.voks, b, h1], by simp [D.noClos, c, h2], by simp only [D.dps]; omega, by simp only [D.szs, List.length_cons]; omega, ?_⟩
    rw [List.all_cons, h5, a]; rfl
theorem itms {l : List D} (h : ∀ x ∈ l, itmB x = true) : D.voks l = true ∧ D.noClos l = true ∧ D.dps l ≤ 20 ∧ D.szs l ≤ 5001 * l.length ∧ ∀ x ∈ l, RowV x := by
  induction l with
  | nil => exact ⟨rfl, rfl, Nat.zero_le _, Nat.le_refl _, fun _ z => nomatch z⟩
  | cons x r ih =>
    obtain ⟨h1, h2, h3, h4, h5⟩ := ih fun y hy => h y (List.mem_cons_of_mem _ hy)
    have := h x List.mem_cons_self
    simp only [itmB, Bool.and_eq_true, decide_eq_true_eq] at this
    obtain ⟨⟨⟨⟨⟨a, a'⟩, b⟩, c⟩, d⟩, e⟩ := this
    refine ⟨by simp [D.voks, b, h1], by simp [D.noClos, c, h2], by simp only [D.dps]; omega, by simp only [D.szs, List.length_cons]; omega, fun y hy => ?_⟩
    rcases List.mem_cons.mp hy with rfl | hy
    · refine ⟨a, fun l e => ?_⟩
      subst e
      simp only [Bool.and_eq_true, decide_eq_true_eq, List.all_eq_true] at a'
      exact a'
    · exact h5 y hy
theorem itm_tup {l : List D} (hl : l.length ≤ 40) (h : ∀ x ∈ l, atmB x = true) : itmB (.tup l) = true := by
  obtain ⟨h1, h2, h3, h4, h5⟩ := atms h
  simp only [itmB, Bool.and_eq_true, decide_eq_true_eq]
  exact ⟨⟨⟨⟨⟨rfl, by omega, h5⟩, h1⟩, h2⟩, by simp only [D.dp]; omega⟩, by simp only [D.sz]; omega⟩
theorem itm_lst {l : List D} (hl : l.length ≤ 40) (h : ∀ x ∈ l, atmB x = true) : itmB (.lst l) = true := by
  obtain ⟨h1, h2, h3, h4, h5⟩ := atms h
  simp only [itmB, Bool.and_eq_true, decide_eq_true_eq]
  exact ⟨⟨⟨⟨⟨rfl, trivial⟩, h1⟩, h2⟩, by simp only [D.dp]; omega⟩, by simp only [D.sz]; omega⟩
theorem bnt_l {l : List D} (hl : l.length ≤ 40) (h : ∀ x ∈ l, itmB x = true) : Bnt (.lst l) := by
  obtain ⟨h1, h2, h3, h4, h5⟩ := itms h
  exact ⟨⟨rfl, fun l' e => by
    rcases e with e | e <;> cases e
    exact ⟨by omega, h5⟩⟩, reprD_vok h1 (by simp only [D.dp]; omega) (by simp only [D.sz]; omega), h2⟩
theorem bnt_t {l : List D} (hl : l.length ≤ 40) (h : ∀ x ∈ l, itmB x = true) : Bnt (.tup l) := by
  obtain ⟨h1, h2, h3, h4, h5⟩ := itms h
  exact ⟨⟨rfl, fun l' e => by
    rcases e with e | e <;> cases e
    exact ⟨by omega, h5⟩⟩, reprD_vok h1 (by simp only [D.dp]; omega) (by simp only [D.sz]; omega), h2⟩
theorem bnt_c {d : D} (h1 : (tyD d).isSome = true) (h2 : seqOf d = none) (h3 : d.vok = true) (h4 : d.dp ≤ 60) (h5 : d.sz ≤ 1000000) (h6 : d.noClo = true) : Bnt d :=
  ⟨⟨h1, fun l e => by rcases e with rfl | rfl <;> cases h2⟩, reprD_vok h3 h4 h5, h6⟩
theorem repr_some {w : D} (h : (reprD w).isSome = true) : ∃ s : Str, reprD w = some (.str s) := by
  obtain ⟨d, hd⟩ := Option.isSome_iff_exists.mp h
  have hd' := hd
  unfold reprD at hd'
  split at hd'
  · split at hd'
    · cases hd'
      exact ⟨_, hd⟩
    · cases hd'
  · cases hd'
theorem bnt_d : Bnt (.dct []) := ⟨⟨rfl, fun l e => by rcases e with e | e <;> cases e⟩, repr_some (by decide +kernel), rfl⟩
/-- the values that are no patterns -/
def odds : List D := [.non, .int 5, .str "ab", .dct [], .bl true, .lst [], .tup [], .lst (List.replicate 11 (.tup [])), .lst [.lst []], .lst [.non], .lst [.tup [.int 0, .int 0]], .lst [.tup [.int 1]]]
theorem odds_ok : ∀ x ∈ odds, Bnt x := by
  intro x hx
  simp only [odds, List.mem_cons, List.not_mem_nil, or_false] at hx
  rcases hx with rfl | rfl | rfl | rfl | rfl | rfl | rfl | rfl | rfl | rfl | rfl | rfl
  · exact bnt_c rfl rfl rfl (by decide) (by decide) rfl
  · exact bnt_c rfl rfl rfl (by decide) (by decide) rfl
  · exact bnt_c rfl rfl (by decide +kernel) (by decide +kernel) (by decide +kernel) rfl
  · exact bnt_d
  · exact bnt_c rfl rfl rfl (by decide) (by decide) rfl
  · exact bnt_l (by decide) (by decide +kernel)
  · exact bnt_t (by decide) (by decide +kernel)
  · exact bnt_l (by decide) (by decide +kernel)
  · exact bnt_l (by decide) (by decide +kernel)
  · exact bnt_l (by decide) (by decide +kernel)
  · exact bnt_l (by decide) (by decide +kernel)
  · exact bnt_l (by decide) (by decide +kernel)
theorem atm_cs {r : List Nat} (h : ∀ c ∈ r, c < 100) : ∀ x ∈ cs r, atmB x = true := fun x hx => by
  obtain ⟨c, hc, rfl⟩ := List.mem_map.mp hx
  have := h c hc
  simp [atmB, tyD, D.vok, D.noClo, D.dp, D.sz]
  omega
theorem Pat.lt {P : List (List Nat)} (p : Pat P) : ∀ r ∈ P, r.length ≤ 10 ∧ ∀ c ∈ r, c < 100 := fun r hr => by
  have h1 := Asc.len (p.row r hr).1 (p.row r hr).2
  have h2 := p.len.2
  exact ⟨by omega, fun c hc => by have := (p.row r hr).2 c hc; omega⟩
theorem Pat.itm {P : List (List Nat)} (p : Pat P) : ∀ x ∈ rowsD P, itmB x = true := fun x hx => by
  obtain ⟨r, hr, rfl⟩ := List.mem_map.mp hx
  obtain ⟨h1, h2⟩ := p.lt r hr
  exact itm_tup (by simp [cs]; omega) (atm_cs h2)
theorem cut_sub {α : Type} {l : List α} {a b : Option Int} : ∀ x ∈ cut l a b, x ∈ l := by
  intro x hx
  unfold cut at hx
  exact List.mem_of_mem_drop (List.mem_of_mem_take hx)
theorem bent_ok {P : List (List Nat)} (p : Pat P) : wpF (F__law_bent [.rnd, .lst (rowsD P)]) (fun _ d => Bnt d) fun _ => False := by
  have hpl := p.len
  have hlen : (rowsD P).length = P.length := by simp
  have hz := sz1
  unfold F__law_bent
  refine wpF_fnOf ?_
  generalize hg : (fun (_ : Bool) d => Bnt d) = Q
  show wp _ [some (0, .rnd), some (0, .lst (rowsD P)), none, none, none] _ _
  simp [permD, t18_11, t18_12]
  refine wpF_draw ⟨by decide, by decide⟩ fun w hw => ?_
  clear hg
  have hw : w = 0 ∨ w = 1 ∨ w = 2 ∨ w = 3 ∨ w = 4 ∨ w = 5 ∨ w = 6 ∨ w = 7 := by omega
  have itm := p.itm
  have ixk : ∀ k : Nat, k < P.length → ixN P.length (k : Int) = some k := fun k hk => _root_.G.ixN_k hk
  have put : ∀ (k : Nat) (y : D), itmB y = true → Bnt (.lst ((rowsD P).set k y)) := fun k y hy => by
    refine bnt_l (by simp; omega) fun x hx => ?_
    rcases List.mem_or_eq_of_mem_set hx with h | rfl
    · exact itm x h
    · exact hy
  have row : ∀ k : Nat, k < P.length → ∃ r : List Nat, idxD (D.lst (rowsD P)) (D.int (k : Nat)) = some (rowD r) ∧ r.length ≤ 10 ∧ ∀ x ∈ cs r, atmB x = true := fun k hk => by
    obtain ⟨h1, h2⟩ := p.lt (P[k]) (List.getElem_mem hk)
    refine ⟨P[k], ?_, h1, atm_cs h2⟩
    show atI (rowsD P) (k : Int) = _
    rw [_root_.G.atI_nat' (by simpa using hk)]
    simp
  have lenA : atmB (.int P.length) = true := by
    simp [atmB, tyD, D.vok, D.noClo, D.dp, D.sz]
    omega
  rcases hw with rfl | rfl | rfl | rfl | rfl | rfl | rfl | rfl
  · simp [eqD_int]
    refine ⟨[], rfl, _, rfl, ?_⟩
    exact pick_ok (l := odds) (by simp [odds]) (by simp [odds]) odds_ok
  all_goals
    simp [eqD_int]
    refine wpF_draw ⟨by omega, by omega⟩ fun k hk => ?_
    have hk : k < P.length := by omega
    obtain ⟨r, hr, hrl, hra⟩ := row k hk
    first
      | (simp [hr, rowD, ixk k hk]; done)
      | simp [hr, rowD, ixk k hk]
      | skip
  · exact put k _ (itm_lst (by simp; omega) hra)
  · exact put k _ (itm_tup (by simp; omega) fun x hx => hra x (List.mem_reverse.mp hx))
  · have hc : (cut (cs r) (some (-1)) none).length ≤ 10 := by
      unfold cut
      have := List.length_take_le' (HT.sIx (cs r).length (cs r).length none - HT.sIx (cs r).length 0 (some (-1))) (List.drop (HT.sIx (cs r).length 0 (some (-1))) (cs r))
      simp at this ⊢
      omega
    exact ⟨_, ⟨by omega, rfl⟩, put k _ (itm_tup (by simp; omega) fun x hx => by
      rcases List.mem_append.mp hx with h | h
      · exact hra x h
      · exact hra x (cut_sub x h))⟩
  · refine wpF_mono (pick_ok (P := fun d => atmB d = true) (by simp) (by simp) fun x hx => ?_) (fun fr d hd => ⟨_, ⟨by omega, rfl⟩, put k _ (itm_tup (by simp; omega) fun x hx => ?_)⟩) fun _ z => z
    · simp only [List.mem_cons, List.not_mem_nil, or_false] at hx
      rcases hx with rfl | rfl | rfl | rfl | rfl | rfl | rfl
      · exact lenA
      all_goals decide +kernel
    · rcases List.mem_append.mp hx with h | h
      · exact hra x h
      · rw [List.mem_singleton.mp h]; exact hd
  · obtain ⟨x, hx⟩ : ∃ x, P[k]? = some x := ⟨_, List.getElem?_eq_getElem hk⟩
    rw [hx]
    refine ⟨_, ⟨by omega, _, rfl⟩, bnt_l ?_ fun y hy => itm y (List.mem_of_mem_eraseIdx hy)⟩
    rw [List.length_eraseIdx]
    split <;> omega
  · refine wpF_mono (pick_ok (P := fun d => itmB d = true) (by simp) (by simp) fun x hx => ?_) (fun fr d hd => ⟨_, ⟨by omega, rfl⟩, bnt_l (by simp; omega) fun x hx => ?_⟩) fun _ z => z
    · simp only [List.mem_cons, List.not_mem_nil, or_false] at hx
      rcases hx with rfl | rfl | rfl | rfl | rfl
      · decide +kernel
      · exact itm_tup (by simp) fun x hx => by rw [List.mem_singleton.mp hx]; exact lenA
      all_goals decide +kernel
    · rcases List.mem_append.mp hx with h | h
      · exact itm x h
      · rw [List.mem_singleton.mp h]; exact hd
  · exact bnt_l (by omega) itm
/-- a list that is a pattern -/
theorem pat_rows {n : Nat} : ∀ {l : List D}, (∀ x ∈ l, rowB n x = true) → ∃ P : List (List Nat), l = rowsD P ∧ ∀ r ∈ P, Asc r ∧ ∀ c ∈ r, c < n
  | [], _ => ⟨[], rfl, fun _ z => nomatch z⟩
  | x :: l, h => by
    obtain ⟨P, h1, h2⟩ := pat_rows (l := l) fun y hy => h y (List.mem_cons_of_mem _ hy)
    have hx := h x List.mem_cons_self
    match x, hx with
    | .tup c, hx =>
      simp only [rowB, Bool.and_eq_true] at hx
      obtain ⟨a, h3, h4, h5⟩ := cells_ok hx.1
      rw [h4] at hx
      have h6 := of_decide_eq_true hx.2
      have h7 : a = (a.map Int.toNat).map fun c : Nat => (c : Int) := by
        rw [List.map_map]
        conv => lhs; rw [← List.map_id a]
        refine List.map_congr_left fun i hi => ?_
        have := (h5 i hi).1
        simp
        omega
      refine ⟨a.map Int.toNat :: P, ?_, fun r hr => ?_⟩
      · show D.tup c :: l = rowD (a.map Int.toNat) :: rowsD P
        rw [← h1, h3]
        congr 1
        unfold rowD
        rw [cs_ints, ← h7]
      · rcases List.mem_cons.mp hr with rfl | hr
        · refine ⟨?_, fun c hc => ?_⟩
          · rw [h7, List.pairwise_map] at h6
            exact h6.imp fun h => by omega
          · obtain ⟨i, hi, rfl⟩ := List.mem_map.mp hc
            have := h5 i hi
            omega
        · exact h2 r hr
theorem firstNot_non {f : D → Bool} : ∀ {l : List D}, firstNot f l = .non → ∀ x ∈ l, f x = true
  | [], _ => fun _ z => nomatch z
  | x :: l, h => by
    unfold firstNot at h
    split at h
    · rename_i hx
      have h2 : firstNot f l = .non := by
        rcases firstNot_int (f := f) (l := l) with ⟨i, h3⟩ | h3
        · rw [h3] at h; cases h
        · exact h3
      intro y hy
      rcases List.mem_cons.mp hy with rfl | hy
      · exact hx
      · exact firstNot_non h2 y hy
    · cases h
theorem pat_of {l : List D} (h : wrongL l = .non) : ∃ P, Pat P ∧ l = rowsD P := by
  unfold wrongL at h
  split at h
  · rename_i hl
    obtain ⟨P, h1, h2⟩ := pat_rows (firstNot_non h)
    have h3 : l.length = P.length := by rw [h1]; simp
    rw [h3] at hl h2
    exact ⟨P, ⟨hl, h2⟩, h1⟩
  · cases h
end K

set_option maxHeartbeats 1000000
namespace K
open PySem PySem.Spec PyProof.Rows L2 G LamX
/-- the row that is due -/
def offR (n : Nat) (a : List Int) (c : Nat) : List Nat := (List.range n).filter fun o : Nat => decide ((o : Int) - (c : Int) ∈ a)
theorem off_due {n : Nat} {a : List Int} {c : Nat} : srt ltI (ddI ((a.filter fun i => decide (0 ≤ (c : Int) + i) && decide ((c : Int) + i < (n : Int))).map fun i => (c : Int) + i)) = (offR n a c).map fun k : Nat => (k : Int) := by
  refine srt_of ?_ ?_
  · refine (List.perm_ext_iff_of_nodup (ddI_nodup _) ?_).mpr fun x => ?_
    · exact List.pairwise_map.mpr ((List.nodup_range.sublist List.filter_sublist).imp fun h => by omega)
    · rw [ddI_mem]
      simp only [List.mem_map, List.mem_filter, Bool.and_eq_true, decide_eq_true_eq, offR, List.mem_range]
      constructor
      · rintro ⟨i, ⟨h1, h2, h3⟩, rfl⟩
        refine ⟨((c : Int) + i).toNat, ⟨by omega, ?_⟩, by omega⟩
        rw [show (((((c : Int) + i).toNat : Nat) : Int) - (c : Int)) = i by omega]
        exact h1
      · rintro ⟨k, ⟨h1, h2⟩, rfl⟩
        exact ⟨(k : Int) - (c : Int), ⟨h2, by omega, by omega⟩, by omega⟩
  · rw [List.pairwise_map]
    exact ((List.pairwise_lt_range (n := n)).sublist List.filter_sublist).imp fun h => by omega
theorem off_take {n : Nat} {a : List Int} {k : Nat} (h : k < n) : ((List.range n).map (offR n a)).take (k + 1) = ((List.range n).map (offR n a)).take k ++ [offR n a k] := by
  rw [List.take_add_one]
  simp [h]
theorem offP_eq {n : Nat} {a : List Int} : offP n a = (List.range n).map (offR n a) := rfl
/-- the rows of offsets, told and compared -/
theorem off_vok {n : Nat} {a : List Int} (hn : n ≤ 10) : (D.lst (rowsD (offP n a))).vok = true ∧ (D.lst (rowsD (offP n a))).dp ≤ 60 ∧ (D.lst (rowsD (offP n a))).sz ≤ 1000000 := by
  have : ∀ x ∈ rowsD (offP n a), itmB x = true := fun x hx => by
    obtain ⟨r, hr, rfl⟩ := List.mem_map.mp hx
    obtain ⟨c, hc, rfl⟩ := List.mem_map.mp hr
    have hs : (offR n a c).length ≤ n := by
      have := List.length_filter_le (fun o : Nat => decide ((o : Int) - (c : Int) ∈ a)) (List.range n)
      rw [List.length_range] at this
      exact this
    refine itm_tup (by simp [cs]; exact Nat.le_trans hs (by omega)) (atm_cs fun k hk => ?_)
    have := List.mem_range.mp (List.mem_filter.mp hk).1
    omega
  obtain ⟨h1, h2, h3, h4, h5⟩ := itms this
  have hl : (rowsD (offP n a)).length = n := by simp [offP]
  refine ⟨h1, by simp only [D.dp]; omega, by simp only [D.sz]; rw [hl] at h4; omega⟩
def oddL : List D := [.int 0, .int 11, .int (-1), .non, .bl true, .str "3", .lst [.int 3]]
def badL : List D := [.non, .int 5, .str "1", .lst [.bl true], .lst [.non], .dct [], .lst [.str "1"]]
structure OddV (d : D) : Prop where
  ty : (tyD d).isSome = true
  i : ∀ i : Int, d = .int i → i < 1 ∨ 10 < i
  n : d.noClo = true
structure BadV (d : D) : Prop where
  c : CelV d
  i : ∀ l, seqOf d = some l → l.all isI = false
  n : d.noClo = true
theorem oddL_ok : ∀ x ∈ oddL, OddV x := by
  intro x hx
  simp only [oddL, List.mem_cons, List.not_mem_nil, or_false] at hx
  rcases hx with rfl | rfl | rfl | rfl | rfl | rfl | rfl
  all_goals refine ⟨rfl, fun i e => ?_, rfl⟩; cases e <;> simp
theorem badL_ok : ∀ x ∈ badL, BadV x := by
  intro x hx
  simp only [badL, List.mem_cons, List.not_mem_nil, or_false] at hx
  rcases hx with rfl | rfl | rfl | rfl | rfl | rfl | rfl
  all_goals
    refine ⟨⟨rfl, fun l e => ?_⟩, fun l e => ?_, rfl⟩
    · rcases e with e | e <;> cases e <;> simp [tyD]
    · first | (cases e; done) | (cases e; rfl)
theorem lam0_eq : lam__law_offsets_right 0 = lamOf ct.sub T19 12 [5, 7] lb__law_offsets_right_0 := rfl
theorem lam0_ok {n : Nat} {b : D} (hn : 1 ≤ n ∧ n ≤ 10) (hb : BadV b) : wpF (lam__law_offsets_right 0 [b, .int n] []) (fun _ _ => False) fun x => x = .exn 3 [.int 1] := by
  rw [lam0_eq]
  refine wpF_lamOf ?_
  show wp _ [none, none, none, none, none, some (0, b), none, some (0, .int n), none, none, none, none] _ _
  simp [permD]
  rw [t19_6]
  exact offsets_er2 hn hb.c hb.i
theorem lam1_eq : lam__law_offsets_right 1 = lamOf ct.sub T19 12 [4, 5] lb__law_offsets_right_1 := rfl
theorem lam1_ok {x b : D} (hx : OddV x) : wpF (lam__law_offsets_right 1 [x, b] []) (fun _ _ => False) fun x => x = .exn 3 [.int 0] := by
  rw [lam1_eq]
  refine wpF_lamOf ?_
  show wp _ [none, none, none, none, some (0, x), some (0, b), none, none, none, none, none, none] _ _
  simp [permD]
  rw [t19_6]
  exact offsets_er1 hx.ty hx.i
theorem offsets_right_ok : wpF (F__law_offsets_right [.rnd]) (fun _ r => r = .bl true) fun _ => False := by
  have hz := sz1
  unfold F__law_offsets_right
  refine wpF_fnC rfl (wpF_fnOf ?_)
  show wp _ [some (0, .rnd), none, none, none, none, none, none, none, none, none, none, none] _ _
  simp [permD, u__law_offsets_right_11, u__law_offsets_right_12, u__law_offsets_right_6]
  refine wpF_draw ⟨by decide, by decide⟩ fun n0 hn0 => ?_
  obtain ⟨n, hn⟩ : ∃ n : Nat, n = n0 + 1 := ⟨_, rfl⟩
  have en : (1 : Int) + (n0 : Int) = (n : Int) := by omega
  have hn1 : 1 ≤ n ∧ n ≤ 10 := by omega
  have hn3 : -1000000000 < (n : Int) ∧ (n : Int) < 1000000000 := by omega
  refine ⟨_, rfl, ?_⟩
  rw [en]
  refine wpF_draw ⟨by decide, by decide⟩ fun m hm => ?_
  refine ⟨_, by rw [is_r1, if_pos (by omega)], ?_⟩
  rw [range_cs]
  refine wp_lcRA (fun _ y => ∃ i : Int, y = .int i ∧ (i.natAbs : Int) ≤ 12) (by simp [idle]) (by rw [sz1, List.length_range]; omega) (fun c hc => ?_) fun zs h1 h2 => ?_
  · simp [wipeE, permD, u__law_offsets_right_11]
    refine wpF_draw ⟨by decide, by decide⟩ fun i hi => ?_
    exact ⟨_, rfl, _, rfl, by omega⟩
  · obtain ⟨a, e1, e2, e3⟩ := zs_ints h2
    rw [e1]
    have ha : a.length ≤ 10 := by
      have := congrArg List.length h1
      simp at this
      omega
    simp
    refine ⟨_, ⟨hn3, rfl⟩, ?_⟩
    rw [range_cs]
    refine wp_forG (fun r e => ∃ k x, r = (List.range n).drop k ∧ e = [some (0, .rnd), some (1, .lst (rowsD ((offP n a).take k))), x, none, none, none, none, some (0, .int n), some (0, .lst (a.map .int)), none, none, none]) _ _ ⟨0, none, rfl, rfl⟩ (fun c r e ⟨k, x, h3, he⟩ => ?_) (fun e ⟨k, x, h3, he⟩ => ?_)
    · subst he
      have hk : k < n := by
        have := congrArg List.length h3
        simp at this
        omega
      rw [List.drop_eq_getElem_cons (by simpa using hk)] at h3
      simp only [List.cons.injEq, List.getElem_range] at h3
      obtain ⟨rfl, h3⟩ := h3
      obtain ⟨L, hL⟩ : ∃ L, L = rowsD ((offP n a).take c) := ⟨_, rfl⟩
      rw [← hL]
      have nxt : rowsD ((offP n a).take (c + 1)) = L ++ [rowD (offR n a c)] := by
        rw [hL, offP_eq, off_take hk]; simp
      have Ln : L.length ≤ 10 := by
        rw [hL]; simp [offP]; omega
      simp
      refine wp_lcG (fun i : Int => decide (0 ≤ (c : Int) + i) && decide ((c : Int) + i < (n : Int))) (fun i => .int ((c : Int) + i)) (by simp [idle]) (by omega) (fun i hi => ?_) ?_
      · simp [wipeE]
        by_cases h5 : (0 : Int) ≤ (c : Int) + i <;> by_cases h6 : (c : Int) + i < (n : Int) <;> simp [h5, h6] <;> omega
      · rw [show (List.map (fun i : Int => D.int ((c : Int) + i)) (a.filter fun i => decide (0 ≤ (c : Int) + i) && decide ((c : Int) + i < (n : Int)))) = ((a.filter fun i => decide (0 ≤ (c : Int) + i) && decide ((c : Int) + i < (n : Int))).map fun i => (c : Int) + i).map .int by rw [List.map_map]; rfl]
        have hf := List.length_filter_le (fun i => decide (0 ≤ (c : Int) + i) && decide ((c : Int) + i < (n : Int))) a
        have hd2 : (ddI ((a.filter fun i => decide (0 ≤ (c : Int) + i) && decide ((c : Int) + i < (n : Int))).map fun i => (c : Int) + i)).length < 64 := by
          refine Nat.lt_of_le_of_lt ddI_len ?_
          rw [List.length_map]; omega
        generalize hf2 : ((a.filter fun i => decide (0 ≤ (c : Int) + i) && decide ((c : Int) + i < (n : Int))).map fun i => (c : Int) + i) = b at hd2
        have hb : (srt ltI (ddI b)).map D.int = cs (offR n a c) := by rw [← hf2, off_due, cs_ints]
        refine ⟨.set ((ddI b).map .int), ⟨_, setD_ints (by rw [← hf2, List.length_map]; omega), rfl⟩, .lst (cs (offR n a c)), ?_, .tup (cs (offR n a c)), rfl, ?_⟩
        · rw [sortB_s, if_pos (by rw [List.length_map]; exact hd2), sortD_ints, hb]; rfl
        · simp
          exact ⟨_, ⟨by omega, rfl⟩, c + 1, h3, congrArg D.lst (by rw [← List.map_take]; exact nxt.symm)⟩
    · subst he
      have hk : n ≤ k := by
        have := congrArg List.length h3
        simp at this
        omega
      rw [List.take_of_length_le (by simp [offP]; omega)]
      obtain ⟨L, hL⟩ : ∃ L, L = rowsD (offP n a) := ⟨_, rfl⟩
      rw [← hL]
      simp
      obtain ⟨v1, v2, v3⟩ := off_vok (n := n) (a := a) hn1.2
      rw [← hL] at v1 v2 v3
      obtain ⟨s, hs⟩ := reprD_vok v1 v2 v3
      refine wpF_mono (offsets_ok hn1 (.inl rfl) (by omega)) (fun fr d ⟨hfr, hd⟩ => ?_) fun _ z => z
      rw [← hL] at hd
      subst hd
      refine ⟨_, hs, _, hs, .bl false, by simp [eqD_str], rfl, ?_⟩
      refine wpF_mono (offsets_ok hn1 (.inr rfl) (by omega)) (fun fr2 d ⟨hfr2, hd⟩ => ?_) fun _ z => z
      rw [← hL] at hd
      subst hd
      refine ⟨.bl false, .inr ⟨eqD_self v1 v2, rfl⟩, rfl, ?_⟩
      refine wpF_mono (pick_ok (P := OddV) (l := oddL) (by simp [oddL]) (by simp [oddL]) oddL_ok) (fun fr3 odd ho => ?_) fun _ z => z
      refine ⟨_, rfl, ?_⟩
      refine wpF_mono (pick_ok (P := BadV) (l := badL) (by simp [badL]) (by simp [badL]) badL_ok) (fun fr4 bad hb => ?_) fun _ z => z
      refine ⟨_, ⟨by omega, rfl⟩, _, rfl, ?_⟩
      rw [show [D.clo 1 [], D.clo 0 []] = [1, 0].map fun k => D.clo k [] from rfl]
      refine wp_lcJ (fun w => ∃ m m', w = [some (0, D.rnd), some (1, D.lst L), x, some (if fr = true then G.top (D.lst L) else 0, D.lst L), some (m, odd), some (m', bad), some (0, D.lst ([1, 0].map fun k => D.clo k [])), some (0, D.int ↑n), some (0, D.lst (List.map D.int a)), none, none, none]) (fun _ => true) (fun k : Nat => .tup [.str "sweep", if k = 1 then .int 0 else .int 1]) (by simp [idle]) (by simp; omega) ⟨_, _, rfl⟩ (fun k hk w ⟨m, m', hw⟩ => ?_) fun w ⟨m, m', hw⟩ => ?_
      · subst hw
        simp only [List.mem_cons, List.not_mem_nil, or_false] at hk
        rcases hk with rfl | rfl
        all_goals
          simp [caps__law_offsets_right]
          rw [uw__law_offsets_right_17]
        · exact ⟨by simp [D.noClos, ho.n, hb.n], wpF_is (error_ok (c := 3) (.inr rfl) (lam1_ok ho)) fun fr => ⟨rfl, rfl, _, _, rfl⟩⟩
        · exact ⟨by simp [D.noClos, hb.n, D.noClo], wpF_is (error_ok (c := 3) (.inr rfl) (lam0_ok hn1 hb)) fun fr => ⟨rfl, rfl, _, _, rfl⟩⟩
      · subst hw
        simp
        exact ⟨eqD_self (by decide +kernel) (by decide), rfl⟩
end K

set_option maxHeartbeats 1000000
namespace K
open PySem PySem.Spec PyProof.Rows L2 G LamX
/-- values that are no cells of n -/
structure NonV (n : Nat) (d : D) : Prop where
  c : CelV d
  b : ∀ w, cellsB n w d = false
  n : d.noClo = true
def nonL (n : Nat) : List D := [.non, .int 5, .dct [], .lst [.int 0, .int 0], .lst [.int (-1)], .lst [.int n], .lst [.bl true], .lst [.str "0"], .lst [.non], .lst [.lst []]]
theorem nonL_ok {n : Nat} (hn : 1 ≤ n) : ∀ x ∈ nonL n, NonV n x := by
  intro x hx
  simp only [nonL, List.mem_cons, List.not_mem_nil, or_false] at hx
  rcases hx with rfl | rfl | rfl | rfl | rfl | rfl | rfl | rfl | rfl | rfl
  all_goals
    refine ⟨⟨rfl, fun l e => ?_⟩, fun w => ?_, rfl⟩
    · rcases e with e | e <;> cases e <;> simp [tyD]
    · simp [cellsB, seqOf, cellB, iL]
theorem firstNot_lt {f : D → Bool} : ∀ {l : List D} {i : Int}, firstNot f l = .int i → 0 ≤ i ∧ i < l.length
  | [], i, h => by cases h
  | x :: l, i, h => by
    unfold firstNot at h
    split at h
    · split at h
      · rename_i j hj
        have := firstNot_lt hj
        cases h
        simp only [List.length_cons]
        omega
      · rename_i hn
        exact absurd h (hn i)
    · cases h
      simp only [List.length_cons]
      omega
theorem wrongB_lt {d : D} {i : Int} (h : wrongB d = .int i) : 0 ≤ i ∧ i < 10 := by
  have hL : ∀ l, wrongL l = .int i → 0 ≤ i ∧ i < 10 := fun l h => by
    unfold wrongL at h
    split at h
    · have := firstNot_lt h; omega
    · cases h; omega
  unfold wrongB at h
  split at h
  · exact hL _ h
  · exact hL _ h
  · cases h; omega
section
variable {P : List (List Nat)} (p : Pat P) {d x : D}
theorem rl0_eq : lam__law_refused 0 = lamOf ct.sub T20 7 [1] lb__law_refused_0 := rfl
theorem rl1_eq : lam__law_refused 1 = lamOf ct.sub T20 7 [1, 2] lb__law_refused_1 := rfl
theorem rl2_eq : lam__law_refused 2 = lamOf ct.sub T20 7 [1, 2] lb__law_refused_2 := rfl
theorem rl3_eq : lam__law_refused 3 = lamOf ct.sub T20 7 [2, 3] lb__law_refused_3 := rfl
theorem rl4_eq : lam__law_refused 4 = lamOf ct.sub T20 7 [2, 3] lb__law_refused_4 := rfl
include p
theorem rl0_ok : wpF (lam__law_refused 0 [.lst (rowsD P)] []) (fun _ _ => False) fun x => x = .exn 2 [.int 0] := by
  have hp := p.len
  rw [rl0_eq]
  refine wpF_lamOf ?_
  show wp _ [none, some (0, .lst (rowsD P)), none, none, none, none, none] _ _
  simp [permD]
  refine ⟨_, ⟨by omega, rfl⟩, ?_⟩
  rw [t20_9, show (P.length : Int) - 1 = ((P.length - 1 : Nat) : Int) by omega, range_cs]
  refine saved_er2 p (.inl rfl) (celV_cs (.inl rfl) (by rw [List.length_range]; omega)) ?_
  have : ¬ P.length ≤ P.length - 1 := by omega
  simp [cellsB, seqOf, cs, this]
theorem rl1_ok (h : NonV P.length x) : wpF (lam__law_refused 1 [.lst (rowsD P), x] []) (fun _ _ => False) fun x => x = .exn 2 [.int 0] := by
  rw [rl1_eq]
  refine wpF_lamOf ?_
  show wp _ [none, some (0, .lst (rowsD P)), some (0, x), none, none, none, none] _ _
  simp [permD]
  rw [t20_9]
  exact saved_er2 p (.inl rfl) h.c (h.b _)
theorem rl2_ok (h : NonV P.length x) : wpF (lam__law_refused 2 [.lst (rowsD P), x] []) (fun _ _ => False) fun x => x = .exn 2 [.int 0] := by
  rw [rl2_eq]
  refine wpF_lamOf ?_
  show wp _ [none, some (0, .lst (rowsD P)), some (0, x), none, none, none, none] _ _
  simp [permD]
  rw [t20_8]
  exact held_er2 p (.inl rfl) h.c (h.b _)
omit p
theorem rl3_ok (h : PatV d) (hw : wrongB d ≠ .non) : wpF (lam__law_refused 3 [x, d] []) (fun _ _ => False) fun x => x = .exn 3 [wrongB d] := by
  rw [rl3_eq]
  refine wpF_lamOf ?_
  show wp _ [none, none, some (0, x), some (0, d), none, none, none] _ _
  simp [permD]
  rw [t20_9]
  exact saved_er1 h hw
theorem rl4_ok (h : PatV d) (hw : wrongB d ≠ .non) : wpF (lam__law_refused 4 [x, d] []) (fun _ _ => False) fun x => x = .exn 3 [wrongB d] := by
  rw [rl4_eq]
  refine wpF_lamOf ?_
  show wp _ [none, none, some (0, x), some (0, d), none, none, none] _ _
  simp [permD]
  rw [t20_8]
  exact held_er1 h hw
end
theorem rows_noClo {P : List (List Nat)} (p : Pat P) : D.noClos (rowsD P) = true := (itms p.itm).2.1
theorem refused_ok {P : List (List Nat)} (p : Pat P) : wpF (F__law_refused [.rnd, .lst (rowsD P)]) (fun _ r => r = .bl true) fun _ => False := by
  have hz := sz1
  have hp := p.len
  unfold F__law_refused
  refine wpF_fnC (by simp [D.noClos, D.noClo, rows_noClo p]) (wpF_fnOf ?_)
  show wp _ [some (0, .rnd), some (0, .lst (rowsD P)), none, none, none, none, none] _ _
  simp [permD, u__law_refused_19, u__law_refused_12, u__law_refused_18]
  refine ⟨_, rfl, ?_⟩
  refine wpF_mono (pick_ok (P := NonV P.length) (l := nonL P.length) (by simp [nonL]) (by simp [nonL]) (nonL_ok hp.1)) (fun fr1 nn hn => ?_) fun _ z => z
  refine wpF_mono (bent_ok p) (fun fr2 worth hb => ?_) fun _ z => z
  refine wpF_is (wrong_ok hb.v) fun fr3 => ?_
  have fin : ∀ m1 m2 m3 m4 : Nat, wp (blkE [6] (compE [6] [6] (evTs ct.sub (withF T20 17 (F__law_error lam__law_refused)) Es.nil) (ev ct.sub (withF T20 17 (F__law_error lam__law_refused)) (E.fw 17 (E.v 6) caps__law_refused)).val [D.clo 2 [], D.clo 1 [], D.clo 0 []] []))
      [some (0, D.rnd), some (m1, D.lst (rowsD P)), some (m2, nn), some (m3, worth), some (m4, wrongB worth), some (0, .lst [D.clo 2 [], D.clo 1 [], D.clo 0 []]), none]
      (fun a e' => ∃ d, bMul [D.lst [D.tup [D.str (Str.ofString "order"), D.int 0]], D.int 3] = some d ∧ eqD (D.lst a) d = some true ∧ (D.bl true).noClo = true) (fun _ _ => False) := by
    intro m1 m2 m3 m4
    rw [show [D.clo 2 [], D.clo 1 [], D.clo 0 []] = [2, 1, 0].map fun k => D.clo k [] from rfl]
    refine wp_lcJ (fun w => ∃ m1 m2 : Nat, w = [some (0, D.rnd), some (m1, D.lst (rowsD P)), some (m2, nn), some (m3, worth), some (m4, wrongB worth), some (0, .lst ([2, 1, 0].map fun k => D.clo k [])), none]) (fun _ => true) (fun k : Nat => .tup [.str "order", .int 0]) (by simp [idle]) (by simp; omega) ⟨_, _, rfl⟩ (fun k hk w ⟨m1, m2, hw⟩ => ?_) fun w ⟨m1, m2, hw⟩ => ?_
    · subst hw
      simp only [List.mem_cons, List.not_mem_nil, or_false] at hk
      rcases hk with rfl | rfl | rfl
      all_goals
        simp [caps__law_refused]
        rw [uw__law_refused_17]
      · exact ⟨by simp [D.noClos, D.noClo, hn.n, rows_noClo p], wpF_is (error_ok (c := 2) (.inl rfl) (rl2_ok p hn)) fun fr => ⟨rfl, rfl, _, _, rfl⟩⟩
      · exact ⟨by simp [D.noClos, D.noClo, hn.n, rows_noClo p], wpF_is (error_ok (c := 2) (.inl rfl) (rl1_ok p hn)) fun fr => ⟨rfl, rfl, _, _, rfl⟩⟩
      · exact ⟨by simp [D.noClos, D.noClo, rows_noClo p], wpF_is (error_ok (c := 2) (.inl rfl) (rl0_ok p)) fun fr => ⟨rfl, rfl, _, _, rfl⟩⟩
    · subst hw
      simp
      exact ⟨_, rfl, eqD_self (by decide +kernel) (by decide), rfl⟩
  refine ⟨_, ⟨by omega, rfl⟩, ?_⟩
  rcases wrongB_is (d := worth) with ⟨i, hi⟩ | hi
  · right
    rw [hi]
    refine ⟨rfl, _, rfl, ?_⟩
    have hw : wrongB worth ≠ .non := by rw [hi]; exact fun z => nomatch z
    rw [show [D.clo 4 [], D.clo 3 []] = [4, 3].map fun k => D.clo k [] from rfl]
    refine wp_lcJ (fun w => ∃ m2 m3 : Nat, w = [some (0, D.rnd), some (0, D.lst (rowsD P)), some (m2, nn), some (m3, worth), some (if fr3 = true then G.top (.int i) else 0, .int i), some (0, .lst ([4, 3].map fun k => D.clo k [])), none]) (fun _ => true) (fun k : Nat => .tup [.str "sweep", .int i]) (by simp [idle]) (by simp; omega) ⟨_, _, rfl⟩ (fun k hk w ⟨m2, m3, hw⟩ => ?_) fun w ⟨m2, m3, hw⟩ => ?_
    · subst hw
      simp only [List.mem_cons, List.not_mem_nil, or_false] at hk
      rcases hk with rfl | rfl
      all_goals
        simp [caps__law_refused]
        rw [uw__law_refused_17]
      · exact ⟨by simp [D.noClos, hb.n, hn.n], wpF_is (error_ok (c := 3) (.inr rfl) (rl4_ok hb.v hw)) fun fr => by rw [hi]; exact ⟨rfl, rfl, _, _, rfl⟩⟩
      · exact ⟨by simp [D.noClos, hb.n, hn.n], wpF_is (error_ok (c := 3) (.inr rfl) (rl3_ok hb.v hw)) fun fr => by rw [hi]; exact ⟨rfl, rfl, _, _, rfl⟩⟩
    · subst hw
      have hlt := wrongB_lt hi
      rw [hi] at fin
      simp [backE]
      refine ⟨_, rfl, .bl false, .inr ⟨eqD_self ?_ ?_, rfl⟩, rfl, _, ⟨by omega, rfl⟩, rfl, _, ⟨_, rfl⟩, _, rfl, fin _ _ _ _⟩
      · simp [D.vok, D.voks]
        exact ⟨by decide +kernel, by omega⟩
      · simp [D.dp, D.dps]
  · left
    rw [hi]
    refine ⟨rfl, ?_⟩
    rw [← hi]
    exact ⟨_, ⟨by omega, rfl⟩, rfl, _, ⟨_, rfl⟩, _, rfl, fin _ _ _ _⟩
end K

set_option maxHeartbeats 1000000
namespace K
open PySem PySem.Spec PyProof.Rows L2 G LamX
theorem begin_ok (ns : List Int) (h : ns.length ≤ 63) : BeginOk 0 F__law_begin ns := by
  apply BeginOk.of
  unfold F__law_begin
  refine wpF_fnOf ?_
  show wp _ [some (0, .scr ns), none] _ _
  simp
  generalize hc : cut (List.map D.int ns) none (some 63) = xs
  have hx : ∃ zs : List Int, xs = zs.map .int ∧ zs.length ≤ 63 := by
    rw [← hc]
    unfold cut
    rw [← List.map_drop, ← List.map_take]
    exact ⟨_, rfl, by simp; omega⟩
  obtain ⟨zs, rfl, hz⟩ := hx
  refine wp_lcA (fun x => (absD x).getD .non) (by simp [idle]) (by rw [List.length_map, sizeLine_eq]; omega) (fun x hx => ?_) ?_
  · obtain ⟨i, _, rfl⟩ := List.mem_map.mp hx
    simp [wipeE, absD]
  · cases zs with
    | nil => exact .inl ⟨rfl, [1], 0, 1, [], by simp⟩
    | cons i zs =>
      right
      refine ⟨by simp, ((i :: zs).map fun i => if i < 0 then -i else i), 0, 1, [], ?_⟩
      have hz : zs.length + 1 ≤ 63 := hz
      simp [absD]
      omega
theorem held_vok {P : List (List Nat)} {a : List Nat} (h : Done P.length a) (hP : P.length ≤ 10) : (D.lst (cs (heldN P a))).vok = true ∧ (D.lst (cs (heldN P a))).dp ≤ 60 ∧ (D.lst (cs (heldN P a))).sz ≤ 1000000 := by
  have hs : (heldN P a).length ≤ 10 := by
    refine Nat.le_trans (List.length_filter_le _ _) ?_
    rw [sortN_perm.length_eq]
    have := h.len
    omega
  obtain ⟨h1, h2, h3, h4, h5⟩ := atms (atm_cs (r := heldN P a) fun c hc => by
    have := h.lt c (sortN_perm.subset (List.mem_filter.mp hc).1)
    omega)
  have hl : (cs (heldN P a)).length = (heldN P a).length := by simp [cs]
  exact ⟨h1, by simp only [D.dp]; omega, by simp only [D.sz]; omega⟩
/-- the slots a turn may hold -/
def Any (ns : List Int) (e : _root_.G.Env) : Prop := ∃ x2 x3 x4 x5 x6 x7 x8 x9 x10 x11 x12, e = [some (0, .scr ns), some (0, .rnd), x2, x3, x4, x5, x6, x7, x8, x9, x10, x11, x12]
/-- .. with the grid -/
def Grd (ns : List Int) (P : List (List Nat)) (e : _root_.G.Env) : Prop := ∃ m x2 x4 x5 x6 x7 x8 x9 x10 x11 x12, ok1 m (.lst (rowsD P)) = true ∧ e = [some (0, .scr ns), some (0, .rnd), x2, some (m, .lst (rowsD P)), x4, x5, x6, x7, x8, x9, x10, x11, x12]
/-- .. and the value that is asked about -/
def Wrt (ns : List Int) (P : List (List Nat)) (e : _root_.G.Env) : Prop := ∃ m m' w x2 x4 x6 x7 x8 x9 x10 x11 x12, (Bnt w ∧ ok1 m (.lst (rowsD P)) = true ∧ ok1 m' w = true) ∧ e = [some (0, .scr ns), some (0, .rnd), x2, some (m, .lst (rowsD P)), x4, some (m', w), x6, x7, x8, x9, x10, x11, x12]
theorem law_ok (ns : List Int) (h : ns.length ≤ 63) : SaysT (evSs ct.sub TL ir_law) 11 ns := by
  have hz := sz1
  refine SaysT.of ?_
  show wp (evSs ct.sub T21 ir_law) [some (0, .scr ns), some (0, .rnd), none, none, none, none, none, none, none, none, none, none, none] _ _
  simp
  refine wp_forL (fun _ e => Any ns e) _ _ ⟨_, _, _, _, _, _, _, _, _, _, _, rfl⟩ (fun x r e ⟨x2, x3, x4, x5, x6, x7, x8, x9, x10, x11, x12, he⟩ => ?_) fun e _ => trivial
  subst he
  simp [permD, t21_14]
  refine wpF_mono grid_ok (fun fr d ⟨P, p, h1, h2⟩ => ?_) fun _ z => z.elim
  subst h1 h2
  have hp := p.len
  simp
  refine wp_forL (fun _ e => Grd ns P e) _ _ ⟨_, _, _, _, _, _, _, _, _, _, _, by simp, rfl⟩ (fun y r' e ⟨m, y2, y4, y5, y6, y7, y8, y9, y10, y11, y12, hm, he⟩ => ?_) (fun e ⟨m, y2, y4, y5, y6, y7, y8, y9, y10, y11, y12, hm, he⟩ => ?_)
  · subst he
    simp [permD, t21_11]
    refine wpF_draw ⟨by decide, by decide⟩ fun i hi => ?_
    refine ⟨_, by rw [is_r1, if_pos (by omega)], ?_⟩
    refine wp_forL (fun _ e => Wrt ns P e) _ _ ⟨_, _, _, _, _, _, _, _, _, _, _, _, ⟨bnt_l (by simp; omega) p.itm, ok1_0, ok1_0⟩, rfl⟩ (fun z r'' e ⟨m, m', w, z2, z4, z6, z7, z8, z9, z10, z11, z12, ⟨hb, hm, hm'⟩, he⟩ => ?_) (fun e ⟨m, m', w, z2, z4, z6, z7, z8, z9, z10, z11, z12, ⟨hb, hm, hm'⟩, he⟩ => ?_)
    · subst he
      simp [permD, t21_18, t21_19]
      have hty := hb.v.ty
      refine ⟨hm', .bl (isTy ct.sub .list w), ⟨⟨hty, rfl⟩, rfl⟩, ?_⟩
      cases hl : isTy ct.sub .list w with
      | false => exact .inl ⟨rfl, _, _, _, _, _, _, _, _, _, _, _, _, ⟨hb, hm, ok1_0⟩, rfl⟩
      | true =>
        refine .inr ⟨rfl, wpF_is (wrong_ok hb.v) fun fr => ?_⟩
        have : ∃ l, w = .lst l := by
          cases w <;> first | exact ⟨_, rfl⟩ | (exfalso; revert hl; simp [isTy, tyD]; done)
        obtain ⟨l, rfl⟩ := this
        rcases wrongB_is (d := .lst l) with ⟨i, hi⟩ | hi
        · left
          rw [hi]
          exact ⟨rfl, _, _, _, _, _, _, _, _, _, _, _, _, ⟨hb, hm, ok1_0⟩, rfl⟩
        · right
          obtain ⟨Q, q, hq⟩ := pat_of (l := l) hi
          refine ⟨by rw [hi]; rfl, ?_⟩
          rw [hq]
          exact wpF_mono (bent_ok q) (fun fr d hd => ⟨_, _, _, _, _, _, _, _, _, _, _, _, ⟨hd, hm, ok1_fr⟩, rfl⟩) fun _ z => z
    · subst he
      simp [permD, t21_18, t21_3, t21_13]
      refine wpF_is (wrong_ok hb.v) fun fr => ?_
      obtain ⟨s, hs⟩ := hb.t
      refine ⟨_, hs, ?_⟩
      refine wpF_is (is_pattern_ok hb.v) fun fr => ?_
      refine wpF_is (is_pattern_ok hb.v) fun fr => ?_
      obtain ⟨s2, hs2⟩ := reprD_vok (d := .lst [.bl (isNone (wrongB w)), .bl (isNone (wrongB w))]) rfl (by simp [D.dp, D.dps]) (by simp [D.sz, D.szs])
      refine ⟨_, hs2, _, hs2, .bl false, .inr ⟨by simp [eqD_str], rfl⟩, rfl, _, hs, .bl false, .inr ⟨by simp [eqD_str], rfl⟩, rfl, hm, _, ⟨by omega, rfl⟩, ?_⟩
      rw [range_cs]
      refine wpF_mono (mixed_ok (by rw [List.length_range]; omega)) (fun fr d ⟨a, ha, hd⟩ => ?_) fun _ z => z
      subst hd
      have hal : a.length = P.length := by rw [ha.length_eq, List.length_range]
      have hw : Whole P.length a := ⟨⟨(ha.nodup_iff).mpr List.nodup_range, fun c hc => List.mem_range.mp (ha.subset hc)⟩, hal⟩
      refine ⟨_, rfl, _, rfl, ?_⟩
      rw [show F__law_draw = drawF from rfl]
      refine wpF_draw ⟨by simp <;> omega, by simp; omega⟩ fun k hk => ?_
      obtain ⟨rd, e1, e2⟩ := Sq.cut (l := cs a) (d := .lst (cs a)) (n := k) (.inl rfl)
      have e2 : rd = .lst (cs (a.take k)) := by
        rcases e2 with e2 | e2
        · rw [e2]; simp [cs, List.map_take]
        · rw [e2] at e1; simp at e1
      subst e2
      have hdn : Done P.length (a.take k) := hw.d.take k
      have hl2 : (a.take k).length ≤ 10 := by rw [List.length_take]; omega
      obtain ⟨v1, v2, v3⟩ := held_vok (P := P) hdn (by omega)
      obtain ⟨s3, hs3⟩ := reprD_vok v1 v2 v3
      refine ⟨_, e1, ?_⟩
      rw [t21_8]
      refine wpF_mono (held_ok p (.inl rfl) (.inl rfl) hdn) (fun fr d ⟨_, hd⟩ => ?_) fun _ z => z
      subst hd
      refine ⟨_, hs3, ?_⟩
      rw [t21_15]
      refine wpF_mono (kept_ok p (.inl rfl) (.inl rfl)) (fun fr d ⟨_, hd⟩ => ?_) fun _ z => z
      rw [← held_kept hdn] at hd
      subst hd
      refine ⟨_, hs3, .bl false, .inr ⟨by simp [eqD_str], rfl⟩, rfl, _, rfl, ?_⟩
      refine wpF_mono (held_ok p (.inr rfl) (.inr rfl) hdn) (fun fr d ⟨_, hd⟩ => ?_) fun _ z => z
      subst hd
      refine ⟨.bl false, .inr ⟨eqD_self v1 v2, rfl⟩, rfl, ?_⟩
      rw [t21_16]
      refine wpF_is (most_ok p (.inl rfl) (.inl rfl) hw) fun fr => ?_
      rw [t21_9]
      refine wpF_is (saved_ok p (.inl rfl) (.inl rfl) hw) fun fr => ?_
      refine ⟨.bl false, .inr ⟨by simp [eqD_int], rfl⟩, rfl, _, rfl, ?_⟩
      refine wpF_is (saved_ok p (.inl rfl) (.inr rfl) hw) fun fr => ?_
      refine ⟨.bl false, .inr ⟨by simp [eqD_int], rfl⟩, rfl, ?_⟩
      exact ⟨_, _, _, _, _, _, _, _, _, _, _, by first | exact hm | exact ok1_0, rfl⟩
  · subst he
    simp [permD, t21_20, t21_21]
    refine wpF_is offsets_right_ok fun fr => ?_
    refine ⟨rfl, wpF_is (refused_ok p) fun fr => ⟨rfl, _, _, _, _, _, _, _, _, _, _, _, rfl⟩⟩
end K

set_option maxHeartbeats 1000000
namespace K
open PySem PySem.Spec PyProof.Rows L2 G LamX
/-- the law, as the head calls it -/
def spLaw (tb : List (Addr × Str)) : Sp := fun vs H Q _ => ∃ (a : Addr) (ns : List Int) (o : Obj), vs = [.ref a] ∧ ns.length ≤ 63 ∧ (∀ b, b ≠ a → b ∉ tb.map (·.1) → H b = none) ∧ (∀ p ∈ tb, H p.1 = some (.tbl #[])) ∧ H a = some (.frz o (.lst (ns.map V.int))) ∧ ∀ H', Q (.bl true) H'
section
variable {P : Program} {w : World} {K : PySem.W.Frag} {mg : Str → Option Value} {base : Heap} {fd fi : Nat → FuncData} {tb : List (Addr × Str)}
theorem ok_law (T : Txt K mg fd fi) (N : Blt mg) (o__law_offsets_right : CodT base mg tb "_law_offsets_right" (fd 20)) (o__law_refused : CodT base mg tb "_law_refused" (fd 21)) : FnG P w K mg base 9 (He.ga K "law") (fd 22) p_law (spLaw tb) := by
  have g__law_draw := ok__law_draw (P := P) (w := w) (base := base) (tb := tb) T N
  have g_is_integer := ok_is_integer (P := P) (w := w) (base := base) (tl := 0) (tb := tb) T N 
  have g_is_row := ok_is_row (P := P) (w := w) (base := base) (tl := 0) (tb := tb) T N g_is_integer
  have g_first_wrong_row := ok_first_wrong_row (P := P) (w := w) (base := base) (tl := 0) (tb := tb) T N g_is_row
  have g_is_pattern := ok_is_pattern (P := P) (w := w) (base := base) (tl := 0) (tb := tb) T N g_first_wrong_row
  have g_need_pattern := ok_need_pattern (P := P) (w := w) (base := base) (tl := 0) (tb := tb) T N g_first_wrong_row
  have g_need_cells := ok_need_cells (P := P) (w := w) (base := base) (tl := 0) (tb := tb) T N g_is_integer
  have g_offsets := ok_offsets (P := P) (w := w) (base := base) (tl := 0) (tb := tb) T N g_is_integer
  have g_held_by := ok_held_by (P := P) (w := w) (base := base) (tl := 0) (tb := tb) T N 
  have g_held := ok_held (P := P) (w := w) (base := base) (tl := 0) (tb := tb) T N g_held_by g_need_cells g_need_pattern
  have g_saved := ok_saved (P := P) (w := w) (base := base) (tl := 0) (tb := tb) T N g_held_by g_need_cells g_need_pattern
  have g__law_begin := ok__law_begin (P := P) (w := w) (base := base) (tl := 0) (tb := tb) T N 
  have g__law_pick := ok__law_pick (P := P) (w := w) (base := base) (tl := 0) (tb := tb) T N g__law_draw
  have g__law_mixed := ok__law_mixed (P := P) (w := w) (base := base) (tl := 0) (tb := tb) T N g__law_draw
  have g__law_grid := ok__law_grid (P := P) (w := w) (base := base) (tl := 0) (tb := tb) T N g__law_draw
  have g__law_kept := ok__law_kept (P := P) (w := w) (base := base) (tl := 0) (tb := tb) T N 
  have g__law_most := ok__law_most (P := P) (w := w) (base := base) (tl := 0) (tb := tb) T N g__law_kept
  have l__law_error := ok__law_error (P := P) (w := w) (base := base) (tl := 0) (tb := tb) T N 
  have g__law_wrong := ok__law_wrong (P := P) (w := w) (base := base) (tl := 0) (tb := tb) T N 
  have g__law_bent := ok__law_bent (P := P) (w := w) (base := base) (tl := 0) (tb := tb) T N g__law_draw g__law_pick
  have g__law_offsets_right := ok__law_offsets_right (P := P) (w := w) (base := base) (tl := 0) (tb := tb) T N o__law_offsets_right g__law_draw l__law_error g__law_pick g_offsets
  have g__law_refused := ok__law_refused (P := P) (w := w) (base := base) (tl := 0) (tb := tb) T N o__law_refused g__law_bent l__law_error g__law_pick g__law_wrong g_held g_saved
  refine fnG_hand (k := 8) T.f_law.fu sc_law (fun vs H Q E h => by obtain ⟨a, ns, o, rfl, _⟩ := h; rfl) fun cdv A outer s H vs Q E C hr h => ?_
  have tk : Takes (cxOf (L2.CX P w) P w K mg base n_law "law" (defScope s_law) (He.ga K "law") cdv A outer s H E) (wX (cgOf { w := w, r := none } E ct.sub TL).W) := (takes_of rfl rfl rfl rfl).imp fun c d σ H ⟨_, z⟩ => z
  obtain ⟨lo, hlo⟩ : ∃ lo : Nat → Addr → Addr → Option HO, lo = fun _ _ _ => none := ⟨_, rfl⟩
  have hrest : PSs (cxOf (L2.CX P w) P w K mg base n_law "law" (defScope s_law) (He.ga K "law") cdv A outer s H E) ((defBody s_law).drop 1) (fun D σ H => ∃ R, OkR w tb (ct.ca K) ct.cf 0 R ∧ (R.lo = lo ∧ R.lq = "law.<locals>.<lambda>" ∧ R.wv = []) ∧ tS R (fun _ cls dd _ H => E cls dd H) (evSs ct.sub TL ir_law) D σ H) :=
    ⟨fun pins s σ H D I ⟨R, hR, hO, h⟩ => (law_rest T N g__law_bent g__law_draw g__law_grid g__law_kept g__law_mixed g__law_most g__law_offsets_right g__law_refused g__law_wrong g_held g_is_pattern g_saved hR C hr tk).run.run pins s σ H D I h⟩
  refine ⟨_, pss_cons (ps_set (i := 1) C.nd rfl (.inl rfl) (pe_callG C g__law_begin tk (hr.mono (by decide)) rfl T.f__law_begin.m T.f__law_begin.fu.kp T.f__law_begin.b (pa_cons (pv 0) pa_nil))) hrest, ?_⟩
  refine law_run lo _ (w := w) (tl := 0) (m := evSs ct.sub TL ir_law) (W := fun _ cls dd _ H => E cls dd H) ?_
  obtain ⟨a, ns, o, rfl, hl, h1, h2, h3, h4⟩ := h
  exact ⟨a, ns, o, 11, rfl, hl, h1, h2, h3, begin_ok ns hl, law_ok ns hl, h4⟩
end
end K

set_option maxHeartbeats 1000000
namespace K
open PySem PySem.Spec PyProof.Rows L2 G LamX
/-! ### the head -/
def d__law_draw : He.DefD := ⟨("_law_draw", none), "_law_draw", "_law_draw", defArgs s__law_draw, defBody s__law_draw, defScope s__law_draw, [], []⟩
def d_is_integer : He.DefD := ⟨("is_integer", none), "is_integer", "is_integer", defArgs s_is_integer, defBody s_is_integer, defScope s_is_integer, [], []⟩
def d_is_row : He.DefD := ⟨("is_row", none), "is_row", "is_row", defArgs s_is_row, defBody s_is_row, defScope s_is_row, [], []⟩
def d_first_wrong_row : He.DefD := ⟨("first_wrong_row", none), "first_wrong_row", "first_wrong_row", defArgs s_first_wrong_row, defBody s_first_wrong_row, defScope s_first_wrong_row, [], []⟩
def d_is_pattern : He.DefD := ⟨("is_pattern", none), "is_pattern", "is_pattern", defArgs s_is_pattern, defBody s_is_pattern, defScope s_is_pattern, [], []⟩
def d_need_pattern : He.DefD := ⟨("need_pattern", none), "need_pattern", "need_pattern", defArgs s_need_pattern, defBody s_need_pattern, defScope s_need_pattern, [], []⟩
def d_need_cells : He.DefD := ⟨("need_cells", none), "need_cells", "need_cells", defArgs s_need_cells, defBody s_need_cells, defScope s_need_cells, [], []⟩
def d_offsets : He.DefD := ⟨("offsets", none), "offsets", "offsets", defArgs s_offsets, defBody s_offsets, defScope s_offsets, [], []⟩
def d_held_by : He.DefD := ⟨("held_by", none), "held_by", "held_by", defArgs s_held_by, defBody s_held_by, defScope s_held_by, [], []⟩
def d_held : He.DefD := ⟨("held", none), "held", "held", defArgs s_held, defBody s_held, defScope s_held, [], []⟩
def d_saved : He.DefD := ⟨("saved", none), "saved", "saved", defArgs s_saved, defBody s_saved, defScope s_saved, [], []⟩
def d__law_begin : He.DefD := ⟨("_law_begin", none), "_law_begin", "_law_begin", defArgs s__law_begin, defBody s__law_begin, defScope s__law_begin, [], []⟩
def d__law_pick : He.DefD := ⟨("_law_pick", none), "_law_pick", "_law_pick", defArgs s__law_pick, defBody s__law_pick, defScope s__law_pick, [], []⟩
def d__law_mixed : He.DefD := ⟨("_law_mixed", none), "_law_mixed", "_law_mixed", defArgs s__law_mixed, defBody s__law_mixed, defScope s__law_mixed, [], []⟩
def d__law_grid : He.DefD := ⟨("_law_grid", none), "_law_grid", "_law_grid", defArgs s__law_grid, defBody s__law_grid, defScope s__law_grid, [], []⟩
def d__law_kept : He.DefD := ⟨("_law_kept", none), "_law_kept", "_law_kept", defArgs s__law_kept, defBody s__law_kept, defScope s__law_kept, [], []⟩
def d__law_most : He.DefD := ⟨("_law_most", none), "_law_most", "_law_most", defArgs s__law_most, defBody s__law_most, defScope s__law_most, [], []⟩
def d__law_error : He.DefD := ⟨("_law_error", none), "_law_error", "_law_error", defArgs s__law_error, defBody s__law_error, defScope s__law_error, [], []⟩
def d__law_wrong : He.DefD := ⟨("_law_wrong", none), "_law_wrong", "_law_wrong", defArgs s__law_wrong, defBody s__law_wrong, defScope s__law_wrong, [], []⟩
def d__law_bent : He.DefD := ⟨("_law_bent", none), "_law_bent", "_law_bent", defArgs s__law_bent, defBody s__law_bent, defScope s__law_bent, [], []⟩
def d__law_offsets_right : He.DefD := ⟨("_law_offsets_right", none), "_law_offsets_right", "_law_offsets_right", defArgs s__law_offsets_right, defBody s__law_offsets_right, defScope s__law_offsets_right, [], []⟩
def d__law_refused : He.DefD := ⟨("_law_refused", none), "_law_refused", "_law_refused", defArgs s__law_refused, defBody s__law_refused, defScope s__law_refused, [], []⟩
def d_law : He.DefD := ⟨("law", none), "law", "law", defArgs s_law, defBody s_law, defScope s_law, [], []⟩
def e_InvalidOrder : He.DefD := ⟨("InvalidOrder", some "__init__"), "__init__", "InvalidOrder.__init__", defArgs (clsM (top 3) 0), defBody (clsM (top 3) 0), defScope (clsM (top 3) 0), [], []⟩
def e_InvalidSweep : He.DefD := ⟨("InvalidSweep", some "__init__"), "__init__", "InvalidSweep.__init__", defArgs (clsM (top 4) 0), defBody (clsM (top 4) 0), defScope (clsM (top 4) 0), [], []⟩
def fn : List He.DefD := [d__law_draw, d_is_integer, d_is_row, d_first_wrong_row, d_is_pattern, d_need_pattern, d_need_cells, d_offsets, d_held_by, d_held, d_saved, d__law_begin, d__law_pick, d__law_mixed, d__law_grid, d__law_kept, d__law_most, d__law_error, d__law_wrong, d__law_bent, d__law_offsets_right, d__law_refused, d_law, e_InvalidOrder, e_InvalidSweep]
def fa : List He.Fa := [.glo "_law_draw", .glo "is_integer", .glo "is_row", .glo "first_wrong_row", .glo "is_pattern", .glo "need_pattern", .glo "need_cells", .glo "offsets", .glo "held_by", .glo "held", .glo "saved", .glo "_law_begin", .glo "_law_pick", .glo "_law_mixed", .glo "_law_grid", .glo "_law_kept", .glo "_law_most", .glo "_law_error", .glo "_law_wrong", .glo "_law_bent", .glo "_law_offsets_right", .glo "_law_refused", .glo "law", .glo "InplaceError", .glo "InvalidCell", .glo "InvalidOrder", .glo "InvalidSweep", .free "ValueError", .free "abs", .free "all", .free "any", .free "bool", .free "enumerate", .free "int", .free "isinstance", .free "len", .free "list", .free "max", .free "range", .free "repr", .free "set", .free "sorted", .free "tuple", .int "MOST_CELLS" 10]
def tx : List Str := ["_law_offsets_right", "_law_refused"]
def bx (K : PySem.W.Frag) : Bool := xtB ct K && (baB K (ct.ca K 0) && (inB K "InvalidOrder" && (inB K "InvalidSweep" && (tbB K tx))))
abbrev Rw : PySem.W.OpenRow := PySem.W.OpenLaw.row PySem.Challenge.rw_inplace_k50_patterns_and_held_cells
abbrev hk : PySem.W.Hook := hookX bx tx fa fn 5
def ob (s : PySem.W.SharedT) : AlX := obsXG bx tx fa fn 5 (HandSHeadRun.getT s)
theorem ob_eq (s : PySem.W.SharedT) : ob s = hk.obs s.abs := obsXG_eq bx tx fa fn (HandSHeadRun.getT_eq s)
def names0 : List PySem.Str := ["InplaceError", "InvalidCell", "InvalidOrder", "InvalidSweep", "is_integer", "is_row", "first_wrong_row", "is_pattern", "need_pattern", "need_cells", "offsets", "held_by", "held", "saved", "_law_begin", "_law_draw", "_law_pick", "_law_mixed", "_law_grid", "_law_kept", "_law_most", "_law_error", "_law_wrong", "_law_bent", "_law_offsets_right", "_law_refused", "MOST_CELLS"]
def names : List PySem.Str := names0
theorem run (w : World) : HandSHeadRun.RunEq Rw (PySem.W.view Rw.prog [31]) hk ob 6000 names w := by
  intro os
  kernel_rfl
theorem facts {w : World} {K : PySem.W.Frag} {h : Heap} {mg : Str → Option Value} {f : Addr} (X : K.In h) (G : h.Ns mainGlobals mg) (hfa : mg ("law" : Str) = some (.ref f)) (c : SaysX bx fa fn K) :
    (∀ p ∈ csOf K tx, PySem.W.CodeHd h p.1 p.2) ∧ ∃ fd : FuncData, (∀ (s : Shared) (v : Value), BindsTo s fd ⟨[v], []⟩ [("_law_script", v)]) ∧ ∀ base : Heap, K.In base → base.Ns mainGlobals mg → (∀ p ∈ csOf K tx, LamX.TabB base mg p.1 p.2) → FnG Rw.prog w K mg base 9 f fd p_law (spLaw (tbOf K tx)) := by
  obtain ⟨x__law_draw, F__law_draw'⟩ := c.d.def_ 0 (d := d__law_draw) rfl
  obtain ⟨x_is_integer, F_is_integer'⟩ := c.d.def_ 1 (d := d_is_integer) rfl
  obtain ⟨x_is_row, F_is_row'⟩ := c.d.def_ 2 (d := d_is_row) rfl
  obtain ⟨x_first_wrong_row, F_first_wrong_row'⟩ := c.d.def_ 3 (d := d_first_wrong_row) rfl
  obtain ⟨x_is_pattern, F_is_pattern'⟩ := c.d.def_ 4 (d := d_is_pattern) rfl
  obtain ⟨x_need_pattern, F_need_pattern'⟩ := c.d.def_ 5 (d := d_need_pattern) rfl
  obtain ⟨x_need_cells, F_need_cells'⟩ := c.d.def_ 6 (d := d_need_cells) rfl
  obtain ⟨x_offsets, F_offsets'⟩ := c.d.def_ 7 (d := d_offsets) rfl
  obtain ⟨x_held_by, F_held_by'⟩ := c.d.def_ 8 (d := d_held_by) rfl
  obtain ⟨x_held, F_held'⟩ := c.d.def_ 9 (d := d_held) rfl
  obtain ⟨x_saved, F_saved'⟩ := c.d.def_ 10 (d := d_saved) rfl
  obtain ⟨x__law_begin, F__law_begin'⟩ := c.d.def_ 11 (d := d__law_begin) rfl
  obtain ⟨x__law_pick, F__law_pick'⟩ := c.d.def_ 12 (d := d__law_pick) rfl
  obtain ⟨x__law_mixed, F__law_mixed'⟩ := c.d.def_ 13 (d := d__law_mixed) rfl
  obtain ⟨x__law_grid, F__law_grid'⟩ := c.d.def_ 14 (d := d__law_grid) rfl
  obtain ⟨x__law_kept, F__law_kept'⟩ := c.d.def_ 15 (d := d__law_kept) rfl
  obtain ⟨x__law_most, F__law_most'⟩ := c.d.def_ 16 (d := d__law_most) rfl
  obtain ⟨x__law_error, F__law_error'⟩ := c.d.def_ 17 (d := d__law_error) rfl
  obtain ⟨x__law_wrong, F__law_wrong'⟩ := c.d.def_ 18 (d := d__law_wrong) rfl
  obtain ⟨x__law_bent, F__law_bent'⟩ := c.d.def_ 19 (d := d__law_bent) rfl
  obtain ⟨x__law_offsets_right, F__law_offsets_right'⟩ := c.d.def_ 20 (d := d__law_offsets_right) rfl
  obtain ⟨x__law_refused, F__law_refused'⟩ := c.d.def_ 21 (d := d__law_refused) rfl
  obtain ⟨x_law, F_law'⟩ := c.d.def_ 22 (d := d_law) rfl
  obtain ⟨y_InvalidOrder, I_InvalidOrder'⟩ := c.d.def_ 23 (d := e_InvalidOrder) rfl
  obtain ⟨y_InvalidSweep, I_InvalidSweep'⟩ := c.d.def_ 24 (d := e_InvalidSweep) rfl
  have e := hfa.symm.trans (He.glo_ok X G (c.d.fact 22 (f := .glo "law") rfl))
  cases e
  have hb := c.b
  unfold bx at hb
  simp only [Bool.and_eq_true] at hb
  obtain ⟨b_xt, b_ba, b_InvalidOrder, b_InvalidSweep, b_tb⟩ := hb
  have T : Txt K mg (fun j => match j with | 11 => x__law_draw | 0 => x_is_integer | 1 => x_is_row | 2 => x_first_wrong_row | 3 => x_is_pattern | 4 => x_need_pattern | 5 => x_need_cells | 6 => x_offsets | 7 => x_held_by | 8 => x_held | 9 => x_saved | 10 => x__law_begin | 12 => x__law_pick | 13 => x__law_mixed | 14 => x__law_grid | 15 => x__law_kept | 16 => x__law_most | 17 => x__law_error | 18 => x__law_wrong | 19 => x__law_bent | 20 => x__law_offsets_right | 21 => x__law_refused | 22 => x_law | _ => x_law) (fun j => match j with | 2 => y_InvalidOrder | 3 => y_InvalidSweep | _ => x_law) := {
    f__law_draw := ⟨fun_of (st := s__law_draw) F__law_draw', He.glo_ok X G (c.d.fact 0 (f := .glo "_law_draw") rfl), (fun_of (st := s__law_draw) F__law_draw').binds (ps := p__law_draw) fun _ _ _ _ _ _ us hl => match us, hl with | [_, _], _ => rfl⟩
    f_is_integer := ⟨fun_of (st := s_is_integer) F_is_integer', He.glo_ok X G (c.d.fact 1 (f := .glo "is_integer") rfl), (fun_of (st := s_is_integer) F_is_integer').binds (ps := p_is_integer) fun _ _ _ _ _ _ us hl => match us, hl with | [_], _ => rfl⟩
    f_is_row := ⟨fun_of (st := s_is_row) F_is_row', He.glo_ok X G (c.d.fact 2 (f := .glo "is_row") rfl), (fun_of (st := s_is_row) F_is_row').binds (ps := p_is_row) fun _ _ _ _ _ _ us hl => match us, hl with | [_, _], _ => rfl⟩
    f_first_wrong_row := ⟨fun_of (st := s_first_wrong_row) F_first_wrong_row', He.glo_ok X G (c.d.fact 3 (f := .glo "first_wrong_row") rfl), (fun_of (st := s_first_wrong_row) F_first_wrong_row').binds (ps := p_first_wrong_row) fun _ _ _ _ _ _ us hl => match us, hl with | [_], _ => rfl⟩
    f_is_pattern := ⟨fun_of (st := s_is_pattern) F_is_pattern', He.glo_ok X G (c.d.fact 4 (f := .glo "is_pattern") rfl), (fun_of (st := s_is_pattern) F_is_pattern').binds (ps := p_is_pattern) fun _ _ _ _ _ _ us hl => match us, hl with | [_], _ => rfl⟩
    f_need_pattern := ⟨fun_of (st := s_need_pattern) F_need_pattern', He.glo_ok X G (c.d.fact 5 (f := .glo "need_pattern") rfl), (fun_of (st := s_need_pattern) F_need_pattern').binds (ps := p_need_pattern) fun _ _ _ _ _ _ us hl => match us, hl with | [_], _ => rfl⟩
    f_need_cells := ⟨fun_of (st := s_need_cells) F_need_cells', He.glo_ok X G (c.d.fact 6 (f := .glo "need_cells") rfl), (fun_of (st := s_need_cells) F_need_cells').binds (ps := p_need_cells) fun _ _ _ _ _ _ us hl => match us, hl with | [_, _, _], _ => rfl⟩
    f_offsets := ⟨fun_of (st := s_offsets) F_offsets', He.glo_ok X G (c.d.fact 7 (f := .glo "offsets") rfl), (fun_of (st := s_offsets) F_offsets').binds (ps := p_offsets) fun _ _ _ _ _ _ us hl => match us, hl with | [_, _], _ => rfl⟩
    f_held_by := ⟨fun_of (st := s_held_by) F_held_by', He.glo_ok X G (c.d.fact 8 (f := .glo "held_by") rfl), (fun_of (st := s_held_by) F_held_by').binds (ps := p_held_by) fun _ _ _ _ _ _ us hl => match us, hl with | [_, _], _ => rfl⟩
    f_held := ⟨fun_of (st := s_held) F_held', He.glo_ok X G (c.d.fact 9 (f := .glo "held") rfl), (fun_of (st := s_held) F_held').binds (ps := p_held) fun _ _ _ _ _ _ us hl => match us, hl with | [_, _], _ => rfl⟩
    f_saved := ⟨fun_of (st := s_saved) F_saved', He.glo_ok X G (c.d.fact 10 (f := .glo "saved") rfl), (fun_of (st := s_saved) F_saved').binds (ps := p_saved) fun _ _ _ _ _ _ us hl => match us, hl with | [_, _], _ => rfl⟩
    f__law_begin := ⟨fun_of (st := s__law_begin) F__law_begin', He.glo_ok X G (c.d.fact 11 (f := .glo "_law_begin") rfl), (fun_of (st := s__law_begin) F__law_begin').binds (ps := p__law_begin) fun _ _ _ _ _ _ us hl => match us, hl with | [_], _ => rfl⟩
    f__law_pick := ⟨fun_of (st := s__law_pick) F__law_pick', He.glo_ok X G (c.d.fact 12 (f := .glo "_law_pick") rfl), (fun_of (st := s__law_pick) F__law_pick').binds (ps := p__law_pick) fun _ _ _ _ _ _ us hl => match us, hl with | [_, _], _ => rfl⟩
    f__law_mixed := ⟨fun_of (st := s__law_mixed) F__law_mixed', He.glo_ok X G (c.d.fact 13 (f := .glo "_law_mixed") rfl), (fun_of (st := s__law_mixed) F__law_mixed').binds (ps := p__law_mixed) fun _ _ _ _ _ _ us hl => match us, hl with | [_, _], _ => rfl⟩
    f__law_grid := ⟨fun_of (st := s__law_grid) F__law_grid', He.glo_ok X G (c.d.fact 14 (f := .glo "_law_grid") rfl), (fun_of (st := s__law_grid) F__law_grid').binds (ps := p__law_grid) fun _ _ _ _ _ _ us hl => match us, hl with | [_, _], _ => rfl⟩
    f__law_kept := ⟨fun_of (st := s__law_kept) F__law_kept', He.glo_ok X G (c.d.fact 15 (f := .glo "_law_kept") rfl), (fun_of (st := s__law_kept) F__law_kept').binds (ps := p__law_kept) fun _ _ _ _ _ _ us hl => match us, hl with | [_, _], _ => rfl⟩
    f__law_most := ⟨fun_of (st := s__law_most) F__law_most', He.glo_ok X G (c.d.fact 16 (f := .glo "_law_most") rfl), (fun_of (st := s__law_most) F__law_most').binds (ps := p__law_most) fun _ _ _ _ _ _ us hl => match us, hl with | [_, _], _ => rfl⟩
    f__law_error := ⟨fun_of (st := s__law_error) F__law_error', He.glo_ok X G (c.d.fact 17 (f := .glo "_law_error") rfl), (fun_of (st := s__law_error) F__law_error').binds (ps := p__law_error) fun _ _ _ _ _ _ us hl => match us, hl with | [_], _ => rfl⟩
    f__law_wrong := ⟨fun_of (st := s__law_wrong) F__law_wrong', He.glo_ok X G (c.d.fact 18 (f := .glo "_law_wrong") rfl), (fun_of (st := s__law_wrong) F__law_wrong').binds (ps := p__law_wrong) fun _ _ _ _ _ _ us hl => match us, hl with | [_], _ => rfl⟩
    f__law_bent := ⟨fun_of (st := s__law_bent) F__law_bent', He.glo_ok X G (c.d.fact 19 (f := .glo "_law_bent") rfl), (fun_of (st := s__law_bent) F__law_bent').binds (ps := p__law_bent) fun _ _ _ _ _ _ us hl => match us, hl with | [_, _], _ => rfl⟩
    f__law_offsets_right := ⟨fun_of (st := s__law_offsets_right) F__law_offsets_right', He.glo_ok X G (c.d.fact 20 (f := .glo "_law_offsets_right") rfl), (fun_of (st := s__law_offsets_right) F__law_offsets_right').binds (ps := p__law_offsets_right) fun _ _ _ _ _ _ us hl => match us, hl with | [_], _ => rfl⟩
    f__law_refused := ⟨fun_of (st := s__law_refused) F__law_refused', He.glo_ok X G (c.d.fact 21 (f := .glo "_law_refused") rfl), (fun_of (st := s__law_refused) F__law_refused').binds (ps := p__law_refused) fun _ _ _ _ _ _ us hl => match us, hl with | [_, _], _ => rfl⟩
    f_law := ⟨fun_of (st := s_law) F_law', He.glo_ok X G (c.d.fact 22 (f := .glo "law") rfl), (fun_of (st := s_law) F_law').binds (ps := p_law) fun _ _ _ _ _ _ us hl => match us, hl with | [_], _ => rfl⟩
    i_InvalidOrder := ⟨⟨_, fun_of (st := clsM (top 3) 0) I_InvalidOrder'⟩, He.glo_ok X G (c.d.fact 25 (f := .glo "InvalidOrder") rfl), (fun_of (st := clsM (top 3) 0) I_InvalidOrder').binds (ps := ["self", "index"]) fun _ _ _ _ _ _ us hl => match us, hl with | [_, _], _ => rfl, (inB_ok b_InvalidOrder).1, (inB_ok b_InvalidOrder).2⟩
    i_InvalidSweep := ⟨⟨_, fun_of (st := clsM (top 4) 0) I_InvalidSweep'⟩, He.glo_ok X G (c.d.fact 26 (f := .glo "InvalidSweep") rfl), (fun_of (st := clsM (top 4) 0) I_InvalidSweep').binds (ps := ["self", "index"]) fun _ _ _ _ _ _ us hl => match us, hl with | [_, _], _ => rfl, (inB_ok b_InvalidSweep).1, (inB_ok b_InvalidSweep).2⟩
    c_InplaceError := He.glo_ok X G (c.d.fact 23 (f := .glo "InplaceError") rfl)
    c_InvalidCell := He.glo_ok X G (c.d.fact 24 (f := .glo "InvalidCell") rfl)
    c_InvalidOrder := He.glo_ok X G (c.d.fact 25 (f := .glo "InvalidOrder") rfl)
    c_InvalidSweep := He.glo_ok X G (c.d.fact 26 (f := .glo "InvalidSweep") rfl)
    xt := xtB_ok b_xt
    ba := baB_ok b_ba
  }
  have N : Blt mg := ⟨He.free_ok X G (c.d.fact 27 (f := .free "ValueError") rfl), He.free_ok X G (c.d.fact 28 (f := .free "abs") rfl), He.free_ok X G (c.d.fact 29 (f := .free "all") rfl), He.free_ok X G (c.d.fact 30 (f := .free "any") rfl), He.free_ok X G (c.d.fact 31 (f := .free "bool") rfl), He.free_ok X G (c.d.fact 32 (f := .free "enumerate") rfl), He.free_ok X G (c.d.fact 33 (f := .free "int") rfl), He.free_ok X G (c.d.fact 34 (f := .free "isinstance") rfl), He.free_ok X G (c.d.fact 35 (f := .free "len") rfl), He.free_ok X G (c.d.fact 36 (f := .free "list") rfl), He.free_ok X G (c.d.fact 37 (f := .free "max") rfl), He.free_ok X G (c.d.fact 38 (f := .free "range") rfl), He.free_ok X G (c.d.fact 39 (f := .free "repr") rfl), He.free_ok X G (c.d.fact 40 (f := .free "set") rfl), He.free_ok X G (c.d.fact 41 (f := .free "sorted") rfl), He.free_ok X G (c.d.fact 42 (f := .free "tuple") rfl), He.int_ok X G (c.d.fact 43 rfl)⟩
  have b := FunD.bindsA (ps := p_law) F_law' fun _ _ _ _ _ _ us hl => match us, hl with | [_], _ => rfl
  refine ⟨codT_hd X b_tb, _, fun s v => b s [v] rfl, fun base _ _ TB => ok_law T N (codT_of X G b_tb TB (by simp [tx]) T.f__law_offsets_right.fu T.f__law_offsets_right.m) (codT_of X G b_tb TB (by simp [tx]) T.f__law_refused.fu T.f__law_refused.m)⟩
end K
open PySem PySem.W PySem.Calls PyProof.Rows
set_option maxHeartbeats 0 in
theorem PySem.Challenge.cw_inplace_k50_patterns_and_held_cells_holds : PySem.Challenge.rw_inplace_k50_patterns_and_held_cells.Holds := by
  w_on; o_law
  refine HandSHeadRun.head_any (r := OpenLaw.row PySem.Challenge.rw_inplace_k50_patterns_and_held_cells) (q := view (OpenLaw.row PySem.Challenge.rw_inplace_k50_patterns_and_held_cells).prog [31]) (H := K.hk) (ob := K.ob) (M := 6000) (loose := K.names) (d := HandSHeadRun.topDef (OpenLaw.row PySem.Challenge.rw_inplace_k50_patterns_and_held_cells).prog 31) (kwd := []) K.ob_eq
    (by kernel_rfl) (fun s => by kernel_rfl) K.run (by kernel_rfl) (by kernel_rfl) (by kernel_rfl) (by rfl) (by first | assumption | decide +kernel) (by decide +kernel) ⟨rfl, rfl, rfl, rfl, rfl, by decide +kernel⟩ ?hw ?hc
  case hw => w_witness2
  case hc =>
    refine G.walk_G (l := PySem.Challenge.rw_inplace_k50_patterns_and_held_cells) (n := 63) (k := 9) (x := "_law_script") rfl (by decide) (by kernel_rfl) ⟨rfl, by decide, by decide⟩ ?F
    intro w mg fa h Y hGn hmg0
    obtain ⟨K1, KX, c, t0⟩ := Y
    have hmg : mg ("law" : PySem.Str) = some (.ref fa) := by
      have e : (HandSHeadRun.topDef (OpenLaw.row PySem.Challenge.rw_inplace_k50_patterns_and_held_cells).prog 31).name = ("law" : PySem.Str) := by kernel_rfl
      rw [← e]
      exact hmg0
    obtain ⟨hC, fd, hb, hF⟩ := K.facts (w := w) KX hGn hmg c
    exact ⟨K1, G.csOf K1 K.tx, fd, K.spLaw (G.tbOf K1 K.tx), KX, c.l, t0.t, hC, hb, fun H a ns o hl h1 h2 h3 => ⟨a, ns, o, rfl, hl, fun b e n => h1 b e (by rw [G.tb_cs]; exact n), fun p hp => G.tb_at h2 p hp, h3, fun _ => rfl⟩, hF⟩

