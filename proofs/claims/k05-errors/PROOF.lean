import PyProof.Rows.All
import Wide.All
import OpenK.AllK
import Wide.FinOn
import HandS.ForMost
import HandS.IsInst
import HandS.TupAny
import HandS.Style
import HandS.Flow
import HandS.Conv
import HandS.SortInts
import HandS.RaiseMore
import HandS.Wide
import HandS.SortOrd
import HandS.SortKw
import KE.DataEq
import KE.DataCmp
import KE.DataIsa
import KE.SortData
import KE.KDictKeyed
import KE.KDictList
import KE.KDictBranch
import PyProof.DictTruth
import HandS.TupLen
import HandS.More
import HandS.Lambda
import HandS.ExcInit
import HandS.ExcIs
import HandS.MakeKwOnly
import KE.KStateDown
import HandS.Words
import HandS.WordsExc
import HandS.Defaults
import HandS.Head0
import HandS.Head1
import HandS.Head2
import HandS.HeadEnd
import HandS.HeadHook1
import HandS.HeadHook2
import PySem.Challenge.RW_inplace_k05_errors
set_option Elab.async false
set_option linter.all false
set_option maxRecDepth 100000
/-! G.Core: plain data, trees of draws, a small language with slots, its evaluation. -/
namespace G
open PySem
abbrev St := L2.St
abbrev It' := L2.It

/-- plain data -/
inductive D where
  | non | bl (b : Bool) | int (i : Int) | str (x : Str)
  | tup (l : List D) | lst (l : List D) | dct (l : List (D × D)) | set (l : List D)
  | ins (c : Nat) (fs : List (Nat × D)) | exn (c : Nat) (fs : List D) | clo (b : Nat) (cap : List D) | rnd | scr (l : List Int)

/-- a tree of draws: at a node some number below n is drawn -/
inductive Tr (α : Type) where
  | ret (a : α)
  | ch (n : Nat) (k : Nat → Tr α)
def Tr.bind {α β : Type} : Tr α → (α → Tr β) → Tr β
  | .ret a, f => f a
  | .ch n k, f => .ch n fun i => (k i).bind f
/-- whatever is drawn -/
def Tr.All {α : Type} (P : α → Prop) : Tr α → Prop
  | .ret a => P a
  | .ch n k => ∀ i, i < n → (k i).All P
theorem Tr.All.mono {α : Type} {P Q : α → Prop} : ∀ {t : Tr α}, t.All P → (∀ a, P a → Q a) → t.All Q
  | .ret _, h, f => f _ h
  | .ch _ _, h, f => fun i hi => Tr.All.mono (h i hi) f
theorem Tr.all_bind {α β : Type} {P : β → Prop} {f : α → Tr β} : ∀ {t : Tr α}, (t.bind f).All P ↔ t.All fun a => (f a).All P
  | .ret _ => Iff.rfl
  | .ch n k => ⟨fun h i hi => Tr.all_bind.mp (h i hi), fun h i hi => Tr.all_bind.mpr (h i hi)⟩
theorem Tr.bind_assoc {α β γ : Type} {f : α → Tr β} {g : β → Tr γ} : ∀ {t : Tr α}, (t.bind f).bind g = t.bind fun a => (f a).bind g
  | .ret _ => rfl
  | .ch n k => by simp only [Tr.bind]; congr; funext i; exact Tr.bind_assoc
theorem Tr.bind_ret {α : Type} : ∀ {t : Tr α}, t.bind Tr.ret = t
  | .ret _ => rfl
  | .ch n k => by simp only [Tr.bind]; congr; funext i; exact Tr.bind_ret

/-- slots: how deep a slot owns its datum, the datum -/
abbrev Env := List (Option (Nat × D))
inductive Rs (α : Type) where
  | ok (a : α) (e : Env)
  | err (x : D) (e : Env)
  | no
abbrev M (α : Type) := Env → Tr (Rs α)
def pu {α : Type} (a : α) : M α := fun e => .ret (.ok a e)
def no {α : Type} : M α := fun _ => .ret .no
def rz {α : Type} (x : D) : M α := fun e => .ret (.err x e)
def mk {α β : Type} (f : α → M β) : Rs α → Tr (Rs β)
  | .ok a e => f a e
  | .err x e => .ret (.err x e)
  | .no => .ret .no
def mb {α β : Type} (m : M α) (f : α → M β) : M β := fun e => (m e).bind (mk f)
def op {α : Type} : Option α → M α
  | some a => pu a
  | none => no
def tst {α : Type} (b : Bool) (m : M α) : M α := if b = true then m else no
/-- what a call gives: whether it is fresh, the datum -/
inductive FO where
  | ok (fr : Bool) (d : D)
  | err (x : D)
  | no
abbrev Fn := List D → Tr FO

/-! ### data -/
mutual
def D.py : D → Option PyData
  | .non => some .none
  | .bl b => some (.bool b)
  | .int i => some (.int i)
  | .str x => some (.str x)
  | .tup l => (D.pys l).map .tuple
  | .lst l => (D.pys l).map .list
  | .dct l => (D.pyk l).map .dict
  | _ => none
def D.pys : List D → Option (List PyData)
  | [] => some []
  | d :: r => match D.py d, D.pys r with
    | some a, some b => some (a :: b)
    | _, _ => none
def D.pyk : List (D × D) → Option (List (PyData × PyData))
  | [] => some []
  | (k, d) :: r => match D.py k, D.py d, D.pyk r with
    | some a, some b, some c => some ((a, b) :: c)
    | _, _, _ => none
end
mutual
/-- nothing in it can change -/
def D.fix : D → Bool
  | .non | .bl _ | .int _ | .str _ | .rnd | .scr _ => true
  | .tup l => D.fixs l
  | _ => false
def D.fixs : List D → Bool
  | [] => true
  | d :: r => D.fix d && D.fixs r
end
/-- all that can change in it is its own top -/
def D.tight : D → Bool
  | .lst l => D.fixs l
  | .set _ => true
  | .dct l => l.all fun p => p.1.fix && p.2.fix
  | d => d.fix
def pl (x : PyData) : Bool := x.plain && decide (x.depth ≤ 64)
def eqD (a b : D) : Option Bool := match a.py, b.py with
  | some x, some y => if pl x = true ∧ pl y = true then some (PyData.eqv x y) else none
  | _, _ => none
/-- keys of dicts: ints and texts, tuples of such -/
def keyD : D → Option L2.Key
  | .int i => some (.inl i)
  | .str x => some (.inr x)
  | _ => none
def D.truth : D → Option Bool
  | .non => some false
  | .bl b => some b
  | .int i => some (i != 0)
  | .str x => if x.length ≤ sizeLine then some ((x.length : Int) != 0) else none
  | .tup l => some (!l.isEmpty)
  | .lst l => some (!l.isEmpty)
  | _ => none

/-! ### operations by data -/
inductive Ty where
  | int | bool | str | list | tuple | dict | set | ve | cls (c : Nat)
  deriving DecidableEq
/-- isinstance; classes by the table of their chains -/
def isTy (sub : Nat → List Nat) : Ty → D → Bool
  | .int, .int _ => true
  | .int, .bl _ => true
  | .bool, .bl _ => true
  | .str, .str _ => true
  | .list, .lst _ => true
  | .tuple, .tup _ => true
  | .dict, .dct _ => true
  | .set, .set _ => true
  | .ve, .exn _ _ => true
  | .cls c, .ins k _ => (sub k).contains c
  | .cls c, .exn k _ => (sub k).contains c
  | _, _ => false
inductive B where
  | add | sub | mul | fdiv | mod | pow | neg
  | eq | ne | lt | le | gt | ge | isN | notN | inn | nin
  | idx | slc (lo hi : Bool) | rev
  | len | list | tuple | set | sorted | dict | abs | int | max2 | min2 | maxL | minL | sum | any | all | repr | tupR | listR
  | isi (ts : List Ty) (one : Bool) | isx (t : Ty) | att (tbl : List (Nat × Nat))
  | get1 | get2 | keys | range1 | range2 | enum | zip | items
  deriving DecidableEq

def D.seq : D → Option (List D)
  | .lst l => some l
  | .tup l => some l
  | _ => none
def iL : List D → Option (List Int)
  | [] => some []
  | .int i :: r => (iL r).map (i :: ·)
  | _ => none
/-- ints, or tuples of iL: the first below the second -/
def ltLex : List Int → List Int → Bool
  | [], [] => false
  | [], _ :: _ => true
  | _ :: _, [] => false
  | a :: r, b :: t => if a = b then ltLex r t else decide (a < b)
def iLL : List D → Option (List (List Int))
  | [] => some []
  | .tup l :: r => match iL l, iLL r with
    | some a, some b => some (a :: b)
    | _, _ => none
  | _ => none
def insL {α : Type} (lt : α → α → Bool) (x : α) : List α → List α
  | [] => [x]
  | y :: r => if lt x y = true then x :: y :: r else y :: insL lt x r
/-- sorted, stable -/
def srt {α : Type} (lt : α → α → Bool) : List α → List α
  | [] => []
  | x :: r => insL lt x (srt lt r)
def tupI (l : List Int) : D := .tup (l.map .int)
def sortD (l : List D) : Option (List D) := match iL l with
  | some a => some ((srt (fun x y : Int => decide (x < y)) a).map .int)
  | none => match iLL l with
    | some a => some ((srt ltLex a).map tupI)
    | none => none
/-- each once, the first time -/
def ddI {α : Type} [DecidableEq α] : List α → List α
  | [] => []
  | x :: r => x :: (ddI r).filter (fun y => y ≠ x)
def setD (l : List D) : Option (List D) := match iL l with
  | some a => some ((ddI a).map .int)
  | none => match iLL l with
    | some a => some ((ddI a).map tupI)
    | none => none
def pos? (i : Int) (n : Nat) : Option Nat := if 0 ≤ i then (if i.toNat < n then some i.toNat else none) else if 0 ≤ i + n then some (i + n).toNat else none
/-- a slice's bound -/
def clip (i : Int) (n : Nat) : Nat := if 0 ≤ i then min i.toNat n else (i + n).toNat
def big (i : Int) : Bool := decide (i.natAbs < 18446744073709551616)
def anyEq (x : D) (l : List D) : Option Bool := match x.py, D.pys l with
  | some d, some xs => if pl d = true ∧ pl (.list xs) = true then some (xs.any fun y => PyData.eqv y d) else none
  | _, _ => none
def rangeD (a b : Int) : List D := (List.range (b - a).toNat).map fun (i : Nat) => D.int (a + (i : Int))
def enumD (l : List D) : List D := l.zipIdx.map fun p => D.tup [.int (p.2 : Int), p.1]
def zipD (a b : List D) : List D := (a.zip b).map fun p => D.tup [p.1, p.2]
mutual
/-- a dict's key -/
def D.nk : D → Option NestedKey
  | .non => some .none
  | .int i => some (.num i)
  | .bl b => some (.num (if b = true then 1 else 0))
  | .str x => some (.text x)
  | .tup l => (D.nks l).map .tup
  | _ => none
def D.nks : List D → Option (List NestedKey)
  | [] => some []
  | d :: r => match D.nk d, D.nks r with
    | some a, some b => some (a :: b)
    | _, _ => none
end
def isKey (d : D) : Bool := match d.nk with
  | some k => decide (k.depth ≤ 8)
  | none => false
def sameK (a b : D) : Bool := decide (a.nk = b.nk)
def lookD (k : D) : List (D × D) → Option D
  | [] => none
  | (j, v) :: r => if sameK j k = true then some v else lookD k r
def putD (k v : D) : List (D × D) → List (D × D)
  | [] => [(k, v)]
  | (j, w) :: r => if sameK j k = true then (j, v) :: r else (j, w) :: putD k v r
def isTupK : D → Bool
  | .tup _ => true
  | _ => false
/-- keys of one dict are all tuples or none -/
def keyOk (k : D) (l : List (D × D)) : Bool := isKey k && l.all fun p => isTupK p.1 == isTupK k
def dictD : List D → List (D × D) → Option (List (D × D))
  | [], acc => some acc
  | .tup [k, v] :: r, acc => if keyOk k acc = true then dictD r (putD k v acc) else none
  | _, _ => none

/-- a dict display's keys and values -/
def ddS : List D → List (D × D) → Option (List (D × D))
  | [], acc => some acc
  | k :: v :: r, acc => if keyOk k acc = true then ddS r (putD k v acc) else none
  | _, _ => none
def cut {α : Type} (l : List α) (lo hi : Option Int) : List α := (l.drop (HT.sIx l.length 0 lo)).take (HT.sIx l.length l.length hi - HT.sIx l.length 0 lo)
def bAdd : List D → Option D
  | [.int a, .int b] => some (.int (a + b))
  | [.str a, .str b] => if a.length + b.length ≤ sizeLine then some (.str (a ++ b)) else none
  | [.lst a, .lst b] => if a.length + b.length ≤ sizeLine then some (.lst (a ++ b)) else none
  | [.tup a, .tup b] => if a.length + b.length ≤ sizeLine then some (.tup (a ++ b)) else none
  | _ => none
def bMul : List D → Option D
  | [.int a, .int b] => if (big a || big b) = true then some (.int (a * b)) else none
  | [.lst a, .int n] => if -1000 ≤ n ∧ n ≤ 1000 ∧ a.length ≤ 1000 then some (.lst (List.replicate n.toNat a).flatten) else none
  | _ => none
def bII (f : Int → Int → Option D) : List D → Option D
  | [.int a, .int b] => f a b
  | _ => none
def b1 (f : D → Option D) : List D → Option D
  | [a] => f a
  | _ => none
def b2 (f : D → D → Option D) : List D → Option D
  | [a, b] => f a b
  | _ => none
def inD (x c : D) : Option Bool := match c with
  | .lst l => anyEq x l
  | .tup l => anyEq x l
  | _ => none
def idxD : D → D → Option D
  | .lst l, .int i => L2.atI l i
  | .tup l, .int i => L2.atI l i
  | _, _ => none
def slcD (lo hi : Option Int) : D → Option D
  | .lst l => some (.lst (cut l lo hi))
  | .tup l => some (.tup (cut l lo hi))
  | .scr l => some (.lst (cut (l.map .int) lo hi))
  | _ => none
def bSlc : Bool → Bool → List D → Option D
  | true, true, [d, .int a, .int b] => slcD (some a) (some b) d
  | true, false, [d, .int a] => slcD (some a) none d
  | false, true, [d, .int b] => slcD none (some b) d
  | false, false, [d] => slcD none none d
  | _, _, _ => none
def lenD : D → Option D
  | .lst l => some (.int l.length)
  | .tup l => some (.int l.length)
  | .dct l => some (.int l.length)
  | .set l => some (.int l.length)
  | .scr l => some (.int l.length)
  | .str x => if x.length ≤ sizeLine then some (.int x.length) else none
  | _ => none
def listD : D → Option D
  | .lst l => some (.lst l)
  | .tup l => some (.lst l)
  | .dct l => some (.lst (l.map (·.1)))
  | _ => none
def tupleD : D → Option D
  | .lst l => some (.tup l)
  | .tup l => some (.tup l)
  | _ => none
def setB : D → Option D
  | .lst l => (setD l).map .set
  | .tup l => (setD l).map .set
  | _ => none
def sortB : D → Option D
  | .lst l => (sortD l).map .lst
  | .tup l => (sortD l).map .lst
  | .set l => (sortD l).map .lst
  | .dct l => (sortD (l.map (·.1))).map .lst
  | _ => none
def revD : D → Option D
  | .lst l => some (.lst l.reverse)
  | .tup l => some (.tup l.reverse)
  | _ => none
def dictB : D → Option D
  | .lst l => (dictD l []).map .dct
  | _ => none
def absD : D → Option D
  | .int a => some (.int (if a < 0 then -a else a))
  | _ => none
def negD : D → Option D
  | .int a => some (.int (-a))
  | _ => none
def intD : D → Option D
  | .int a => some (.int a)
  | .bl a => some (.int (if a = true then 1 else 0))
  | _ => none
def maxLD : D → Option D
  | .lst l => match iL l with | some (a :: r) => some (.int (r.foldl max a)) | _ => none
  | _ => none
def minLD : D → Option D
  | .lst l => match iL l with | some (a :: r) => some (.int (r.foldl min a)) | _ => none
  | _ => none
def sumD : D → Option D
  | .lst l => (iL l).map fun a => .int a.sum
  | _ => none
def bL : List D → Option (List Bool)
  | [] => some []
  | .bl b :: r => (bL r).map (b :: ·)
  | _ => none
def anyD : D → Option D
  | .lst l => (bL l).map fun bs => .bl (bs.any id)
  | _ => none
def allD : D → Option D
  | .lst l => (bL l).map fun bs => .bl (bs.all id)
  | _ => none
def isE : D → Bool
  | .dct [] => true
  | _ => false
def reprD (d : D) : Option D := match d.py with
  | some x => if x.showable = true ∧ (x.hasDict = false ∨ isE d = true) ∧ x.depth ≤ 64 ∧ x.shown.length ≤ sizeLine then some (.str x.shown) else none
  | none => none
def isNone : D → Bool
  | .non => true
  | _ => false
/-- a datum's type -/
def tyD : D → Option String
  | .non => some "NoneType"
  | .bl _ => some "bool"
  | .int _ => some "int"
  | .str _ => some "str"
  | .tup _ => some "tuple"
  | .lst _ => some "list"
  | .dct _ => some "dict"
  | _ => none
def Ty.own : Ty → Bool
  | .cls _ => true
  | .ve => true
  | _ => false
/-- isinstance of an error, asked for a class of the program's own or ValueError -/
def isxD (sub : Nat → List Nat) (t : Ty) : D → Option D
  | .exn c _ => match t with
    | .cls k => if (sub c).isEmpty = false ∧ (sub k).isEmpty = false then some (.bl ((sub c).contains k)) else none
    | .ve => if (sub c).isEmpty = false then some (.bl true) else none
    | _ => none
  | _ => none
/-- an attribute: its place by the class -/
def attD (tbl : List (Nat × Nat)) : D → Option D
  | .exn c fs => match tbl.lookup c with
    | some i => fs[i]?
    | none => none
  | _ => none
def bsem (sub : Nat → List Nat) : B → List D → Option D
  | .add => bAdd
  | .sub => bII fun a b => some (.int (a - b))
  | .mul => bMul
  | .fdiv => bII fun a b => if 0 < b ∧ b < 1073741824 then some (.int (a / b)) else none
  | .mod => bII fun a b => if 0 < b then some (.int (a % b)) else none
  | .pow => bII fun a b => if 0 ≤ b ∧ b ≤ 1000 ∧ big a = true then some (.int (a ^ b.toNat)) else none
  | .neg => b1 negD
  | .eq => b2 fun a b => (eqD a b).map .bl
  | .ne => b2 fun a b => (eqD a b).map fun c => .bl (!c)
  | .lt => bII fun a b => some (.bl (decide (a < b)))
  | .le => bII fun a b => some (.bl (decide (a ≤ b)))
  | .gt => bII fun a b => some (.bl (decide (b < a)))
  | .ge => bII fun a b => some (.bl (decide (b ≤ a)))
  | .isN => b1 fun a => some (.bl (isNone a))
  | .notN => b1 fun a => some (.bl (!isNone a))
  | .inn => b2 fun x c => (inD x c).map .bl
  | .nin => b2 fun x c => (inD x c).map fun b => .bl (!b)
  | .idx => b2 idxD
  | .slc lo hi => bSlc lo hi
  | .rev => b1 revD
  | .len => b1 lenD
  | .list => b1 listD
  | .tuple => b1 tupleD
  | .set => b1 setB
  | .sorted => b1 sortB
  | .dict => b1 dictB
  | .abs => b1 absD
  | .int => b1 intD
  | .max2 => bII fun a b => some (.int (if b > a then b else a))
  | .min2 => bII fun a b => some (.int (if b < a then b else a))
  | .maxL => b1 maxLD
  | .minL => b1 minLD
  | .sum => b1 sumD
  | .any => b1 anyD
  | .all => b1 allD
  | .repr => b1 reprD
  | .tupR => b1 fun d => match d with | .int n => if 0 ≤ n ∧ n ≤ 10000 then some (.tup (rangeD 0 n)) else none | _ => none
  | .listR => b1 fun d => match d with | .int n => if 0 ≤ n ∧ n ≤ 10000 then some (.lst (rangeD 0 n)) else none | _ => none
  | .isi ts _ => b1 fun d => if ((tyD d).isSome && ts.all fun t => !t.own) = true then some (.bl (ts.any fun t => isTy sub t d)) else none
  | .isx t => b1 (isxD sub t)
  | .att tbl => b1 (attD tbl)
  | .get1 => b2 fun c k => match c with | .dct l => if keyOk k l = true then some ((lookD k l).getD .non) else none | _ => none
  | .get2 => fun ds => match ds with | [.dct l, k, d] => if keyOk k l = true then some ((lookD k l).getD d) else none | _ => none
  | _ => fun _ => none

/-- what a for walks -/
inductive It where
  | seq | range1 | range2 | enum | zip | keys | items | vals | rev
  deriving DecidableEq
def isem : It → List D → Option (List D)
  | .seq, [.lst l] => some l
  | .seq, [.tup l] => some l
  | .range1, [.int n] => if -1000000000 < n ∧ n < 1000000000 then some (rangeD 0 n) else none
  | .range2, [.int a, .int b] => if (-1000000000 < a ∧ a < 1000000000) ∧ (-1000000000 < b ∧ b < 1000000000) then some (rangeD a b) else none
  | .enum, [.lst l] => some (enumD l)
  | .zip, [.lst a, .lst b] => some (zipD a b)
  | .zip, [.tup a, .tup b] => some (zipD a b)
  | .keys, [.dct l] => some (l.map (·.1))
  | .items, [.dct l] => some (l.map fun p => .tup [p.1, p.2])
  | .vals, [.dct l] => some (l.map (·.2))
  | .rev, [.lst l] => some l.reverse
  | _, _ => none

/-- what changes an object at a slot: the object's datum, the arguments; the new datum, the answer -/
inductive Mu where
  | append | pop0 | pop1 | insert | put | clear | extend | popD
  deriving DecidableEq
def msem : Mu → D → List D → Option (D × D)
  | .append, .lst l, [x] => if l.length < sizeLine then some (.lst (l ++ [x]), .non) else none
  | .pop0, .lst l, [] => match l.getLast? with | some x => some (.lst l.dropLast, x) | none => none
  | .pop1, .lst l, [.int i] => if l.length ≤ sizeLine then (match L2.ixN l.length i with | some k => (match l[k]? with | some x => some (.lst (l.eraseIdx k), x) | none => none) | none => none) else none
  | .insert, .lst l, [.int i, x] => if 0 ≤ i ∧ i < 1000000000 ∧ l.length < sizeLine then some (.lst (l.take i.toNat ++ [x] ++ l.drop i.toNat), .non) else none
  | .put, .lst l, [.int i, x] => match L2.ixN l.length i with | some k => some (.lst (l.set k x), .non) | none => none
  | .clear, .lst _, [] => some (.lst [], .non)
  | .extend, .lst l, [.lst m] => if l.length + m.length ≤ sizeLine then some (.lst (l ++ m), .non) else none
  | _, _, _ => none

/-! ### the language -/
mutual
inductive E where
  | v (i : Nat)
  | c (d : D)
  | g (x : Str) (d : D)
  | tup (es : Es) | lst (es : Es)
  | b (o : B) (es : Es)
  | not (a : E) | and (a b : E) | or (a b : E)
  | ite (c a b : E)
  | ch (o o' : B) (a b c : E)
  | sl (a b c : E) | rv (a : E)
  | f (j : Nat) (es : Es) (kw : List Str) (ord : List Nat)
  | mu (o : Mu) (i : Nat) (es : Es)
  | lc (own : List (Str × Nat)) (tg : List Nat) (it : It) (es : Es) (cs : Es) (elt : E)
  | dc (own : List (Str × Nat)) (tg : List Nat) (it : It) (es : Es) (cs : Es) (key val : E)
  | dd (es : Es)
  | mk (c : Nat) (es : Es)
inductive Es where
  | nil
  | cons (e : E) (r : Es)
end
mutual
inductive S where
  | asg (i : Nat) (e : E)
  | par (is : List Nat) (es : Es)
  | unp (is : List Nat) (e : E)
  | put (i : Nat) (k e : E)
  | ex (e : E)
  | ret (e : E) | ret0
  | ite (c : E) (a b : Ss)
  | whl (fuel : Nat) (c : E) (b : Ss)
  | for_ (tg : List Nat) (it : It) (es : Es) (b : Ss)
  | aug (i : Nat) (o : B) (e : E)
  | brk | cnt | pss
  | rse (c : Nat) (es : Es)
  | try_ (b : Ss) (c : Nat) (i : Option Nat) (h : Ss)
inductive Ss where
  | nil
  | cons (s : S) (r : Ss)
end

/-! ### the evaluator -/
inductive Pl where
  | t (n : Nat) (d : D)
  | v (i : Nat)
def getE (i : Nat) : M (Nat × D) := fun e => match e[i]? with
  | some (some r) => .ret (.ok r e)
  | _ => .ret .no
def setE (i : Nat) (r : Nat × D) : M Unit := fun e => if i < e.length then .ret (.ok () (e.set i (some r))) else .ret .no
/-- the slot's datum, given away -/
def frzE (i : Nat) : M (Nat × D) := mb (getE i) fun r => mb (setE i (0, r.2)) fun _ => pu (0, r.2)
def plOf (e : E) (m : M (Nat × D)) : M Pl := match e with
  | .v i => mb (getE i) fun _ => pu (.v i)
  | _ => mb m fun r => pu (.t r.1 r.2)
def rdP : Pl → M (Nat × D)
  | .t n d => pu (n, d)
  | .v i => getE i
def rdPs : List Pl → M (List (Nat × D))
  | [] => pu []
  | p :: r => mb (rdP p) fun a => mb (rdPs r) fun l => pu (a :: l)
def vlP : Pl → M (Nat × D)
  | .t n d => pu (n, d)
  | .v i => frzE i
def vlPs : List Pl → M (List (Nat × D))
  | [] => pu []
  | p :: r => mb (vlP p) fun a => mb (vlPs r) fun l => pu (a :: l)
/-- read by an operation: not owned, or owned at its top alone -/
def ok1 : Nat → D → Bool
  | 0, _ => true
  | 1, .tup _ => false
  | 1, _ => true
  | _, _ => false
def okN (l : List (Nat × D)) : Bool := l.all fun r => ok1 r.1 r.2
def top : D → Nat
  | .lst _ => 1
  | .dct _ => 1
  | .set _ => 1
  | _ => 0
/-- how deep an operation's answer is owned -/
def bopN : B → D → Nat
  | .idx, _ => 0
  | .get1, _ => 0
  | .get2, _ => 0
  | .att _, _ => 0
  | _, d => top d
def bopE (sub : Nat → List Nat) (o : B) (ps : List Pl) : M (Nat × D) := mb (rdPs ps) fun l => tst (okN l) (mb (op (bsem sub o (l.map (·.2)))) fun d => pu (bopN o d, d))
def truthE (r : Nat × D) : M Bool := op r.2.truth
def foE : FO → M (Nat × D)
  | .ok fr d => pu (if fr = true then top d else 0, d)
  | .err x => rz x
  | .no => no
def ltr {α : Type} (t : Tr α) : M α := fun e => t.bind fun a => .ret (.ok a e)
def permD (l : List (Nat × D)) (ord : List Nat) : List D := ord.map fun i => (l.getD i (0, .non)).2
def callE (F : Nat → Fn) (j : Nat) (ps : List Pl) (ord : List Nat) : M (Nat × D) := mb (vlPs ps) fun l => tst (l.length == ord.length) (mb (ltr (F j (permD l ord))) foE)
/-- a target of names takes a datum -/
def bindTs : List Nat → List D → M Unit
  | [], [] => pu ()
  | i :: is, d :: ds => mb (setE i (0, d)) fun _ => bindTs is ds
  | _, _ => no
def bindT : List Nat → D → M Unit
  | [i], d => setE i (0, d)
  | is, .tup l => bindTs is l
  | _, _ => no
def wipeE (own : List Nat) (e : Env) : Env := own.foldl (fun e i => e.set i none) e
def backE (own : List Nat) (e₀ e : Env) : Env := own.foldl (fun e i => e.set i ((e₀[i]?).getD none)) e
/-- in a comprehension's block -/
def idle (own : List Nat) (e : Env) : Bool := own.all fun i => match e[i]? with | some (some r) => r.1 == 0 | _ => true
def blkE {α : Type} (own : List Nat) (m : M α) : M α := fun e => if idle own e = true then (m e).bind fun
  | .ok a e' => .ret (.ok a (backE own e e'))
  | _ => .ret .no else .ret .no
def compE (tg : List Nat) (own : List Nat) (test : M Bool) (elt : M (Nat × D)) : List D → List D → M (List D)
  | [], acc => pu acc
  | x :: r, acc => mb (fun e => .ret (.ok () (wipeE own e))) fun _ => mb (bindT tg x) fun _ => mb test fun t => if t = true then mb elt fun y => tst (decide (acc.length < sizeLine)) (compE tg own test elt r (acc ++ [y.2])) else compE tg own test elt r acc
def compD (tg : List Nat) (own : List Nat) (test : M Bool) (key val : M (Nat × D)) : List D → List (D × D) → M (List (D × D))
  | [], acc => pu acc
  | x :: r, acc => mb (fun e => .ret (.ok () (wipeE own e))) fun _ => mb (bindT tg x) fun _ => mb test fun t => if t = true then mb key fun k => mb val fun y => tst (keyOk k.2 acc && decide (acc.length < sizeLine)) (compD tg own test key val r (putD k.2 y.2 acc)) else compD tg own test key val r acc

def isL : D → Bool
  | .lst _ => true
  | _ => false
/-- the thing at a slot is changed -/
def muE (o : Mu) (i : Nat) (ds : List D) : M (Nat × D) := mb (getE i) fun x => tst (x.1 == 1) (mb (op (msem o x.2 ds)) fun r => mb (setE i (1, r.1)) fun _ => pu (0, r.2))
def isI : D → Bool
  | .int _ => true
  | _ => false
structure EM where
  val : M (Nat × D)
  test : M Bool
def em (e : E) (m : M (Nat × D)) : EM := ⟨m, mb (plOf e m) fun p => mb (rdP p) truthE⟩
section
variable (sub : Nat → List Nat) (F : Nat → Fn)
mutual
def ev : E → EM
  | .v i => em (.v i) (frzE i)
  | .c d => em (.c d) (pu (1, d))
  | .g x d => em (.g x d) (pu (1, d))
  | .tup es => em (.tup es) (mb (evPs es) fun ps => mb (vlPs ps) fun l => tst (decide (l.length ≤ 1000)) (pu (0, .tup (l.map (·.2)))))
  | .lst es => em (.lst es) (mb (evPs es) fun ps => mb (vlPs ps) fun l => tst (decide (l.length ≤ 1000)) (pu (1, .lst (l.map (·.2)))))
  | .b o es => em (.b o es) (mb (evPs es) fun ps => bopE sub o ps)
  | .not a => ⟨mb (plOf a (ev a).val) fun p => mb (rdP p) fun r => mb (truthE r) fun t => pu (1, .bl (!t)), mb (ev a).test fun t => pu (!t)⟩
  | .and a b => ⟨mb (ev a).val fun x => mb (truthE x) fun t => if t = true then (ev b).val else pu x, mb (ev a).test fun t => if t = true then (ev b).test else pu false⟩
  | .or a b => ⟨mb (ev a).val fun x => mb (truthE x) fun t => if t = true then pu x else (ev b).val, mb (ev a).test fun t => if t = true then pu true else (ev b).test⟩
  | .ite c a b => ⟨mb (ev c).test fun t => if t = true then (ev a).val else (ev b).val, mb (ev c).test fun t => if t = true then (ev a).test else (ev b).test⟩
  | .ch o o' a b c => em (.ch o o' a b c) (mb (plOf a (ev a).val) fun x => mb (plOf b (ev b).val) fun y => mb (bopE sub o [x, y]) fun r => mb (truthE r) fun t => if t = true then mb (plOf c (ev c).val) fun z => bopE sub o' [y, z] else pu r)
  | .sl a b c => em (.sl a b c) (mb (plOf a (ev a).val) fun x => mb (plOf b (ev b).val) fun y => mb (rdP y) fun r => tst (isI r.2) (mb (plOf c (ev c).val) fun z => bopE sub (.slc true true) [x, y, z]))
  | .rv a => em (.rv a) (mb (plOf a (ev a).val) fun x => bopE sub .rev [x])
  | .f j es kw ord => em (.f j es kw ord) (mb (evPs es) fun ps => callE F j ps ord)
  | .mu o i es => em (.mu o i es) (mb (getE i) fun x0 => tst (isL x0.2) (mb (evPs es) fun ps => mb (vlPs ps) fun l => muE o i (l.map (·.2))))
  | .lc own tg it es cs elt => em (.lc own tg it es cs elt) (mb (evPs es) fun ps => mb (vlPs ps) fun l => mb (op (isem it (l.map (·.2)))) fun xs => mb (blkE (own.map (·.2)) (compE tg (own.map (·.2)) (evTs cs) (ev elt).val xs [])) fun r => pu (1, .lst r))
  | .dc own tg it es cs key val => em (.dc own tg it es cs key val) (mb (evPs es) fun ps => mb (vlPs ps) fun l => mb (op (isem it (l.map (·.2)))) fun xs => mb (blkE (own.map (·.2)) (compD tg (own.map (·.2)) (evTs cs) (ev key).val (ev val).val xs [])) fun r => pu (1, .dct r))
  | .dd es => em (.dd es) (mb (evPs es) fun ps => mb (vlPs ps) fun l => mb (op (ddS (l.map (·.2)) [])) fun r => pu (1, .dct r))
  | .mk c es => em (.mk c es) (mb (evPs es) fun ps => mb (vlPs ps) fun l => tst (decide (l.length ≤ 1000) && !(sub c).isEmpty) (pu (0, .exn c (l.map (·.2)))))
def evPs : Es → M (List Pl)
  | .nil => pu []
  | .cons e r => mb (plOf e (ev e).val) fun p => mb (evPs r) fun ps => pu (p :: ps)
def evTs : Es → M Bool
  | .nil => pu true
  | .cons e r => mb (ev e).test fun t => if t = true then evTs r else pu false
end
inductive Fl where
  | nx | rt (n : Nat) (d : D) | bk | ct
/-- a loop over items -/
def forL (bind : D → M Unit) (body : M Fl) : List D → M Fl
  | [] => pu .nx
  | x :: r => mb (bind x) fun _ => mb body fun f => match f with
    | .nx => forL bind body r
    | .ct => forL bind body r
    | .bk => pu .nx
    | .rt n d => pu (.rt n d)
def whlL (test : M Bool) (body : M Fl) : Nat → M Fl
  | 0 => no
  | k + 1 => mb test fun t => if t = true then mb body fun f => match f with
    | .nx => whlL test body k
    | .ct => whlL test body k
    | .bk => pu .nx
    | .rt n d => pu (.rt n d)
    else pu .nx
/-- several slots at once -/
def setAll : List Nat → List (Nat × D) → M Unit
  | [], [] => pu ()
  | i :: is, d :: ds => mb (setE i d) fun _ => setAll is ds
  | _, _ => no
def unpE : List Nat → D → M Unit
  | is, .tup l => bindTs is l
  | _, _ => no
/-- a slot is emptied -/
def goneE (i : Option Nat) : M Unit := fun e => .ret (.ok () (match i with | some j => e.set j none | none => e))
def bornE (i : Option Nat) (x : D) : M Unit := match i with | some j => setE j (0, x) | none => pu ()
/-- no error leaves it -/
def calmM {α : Type} (m : M α) : M α := fun e => (m e).bind fun
  | .ok a e' => .ret (.ok a e')
  | _ => .ret .no
/-- behind a try's body -/
def tryK (c : Nat) (i : Option Nat) (h : M Fl) : Rs Fl → Tr (Rs Fl)
  | .err (.exn k fs) e' => if (sub k).isEmpty || (sub c).isEmpty then .ret .no else if (sub k).contains c then (mb (bornE i (.exn k fs)) fun _ => mb (calmM h) fun f => mb (goneE i) fun _ => pu f) e' else .ret (.err (.exn k fs) e')
  | .err _ _ => .ret .no
  | r => .ret r
mutual
def evS : S → M Fl
  | .asg i e => mb (ev sub F e).val fun r => mb (setE i r) fun _ => pu .nx
  | .par is es => mb (evPs sub F es) fun ps => mb (vlPs ps) fun l => mb (setAll is l) fun _ => pu .nx
  | .unp is e => mb (ev sub F e).val fun r => mb (unpE is r.2) fun _ => pu .nx
  | .put i k e => mb (getE i) fun _ => mb (evPs sub F (.cons e (.cons k .nil))) fun ps => mb (vlPs ps) fun l => mb (muE .put i (l.map (·.2)).reverse) fun _ => pu .nx
  | .ex e => mb (plOf e (ev sub F e).val) fun _ => pu .nx
  | .ret e => mb (ev sub F e).val fun r => pu (.rt r.1 r.2)
  | .ret0 => pu (.rt 1 .non)
  | .ite c a b => mb (ev sub F c).test fun t => if t = true then evSs a else evSs b
  | .whl k c b => whlL (ev sub F c).test (evSs b) k
  | .for_ tg it es b => mb (evPs sub F es) fun ps => mb (vlPs ps) fun l => mb (op (isem it (l.map (·.2)))) fun xs => forL (bindT tg) (evSs b) xs
  | .aug i o e => mb (plOf e (ev sub F e).val) fun p => mb (bopE sub o [.v i, p]) fun r => mb (setE i r) fun _ => pu .nx
  | .brk => pu .bk
  | .cnt => pu .ct
  | .pss => pu .nx
  | .rse c es => mb (evPs sub F es) fun ps => mb (vlPs ps) fun l => tst (decide (l.length ≤ 1000) && !(sub c).isEmpty) (rz (.exn c (l.map (·.2))))
  | .try_ b c i h => fun e => (evSs b e).bind (tryK sub c i (evSs h))
def evSs : Ss → M Fl
  | .nil => pu .nx
  | .cons s r => mb (evS s) fun f => match f with
    | .nx => evSs r
    | f => pu f
end
end
/-- a def: parameters, slots, body -/
def fnOf (sub : Nat → List Nat) (F : Nat → Fn) (n : Nat) (body : Ss) : Fn := fun args => (evSs sub F body (args.map (fun d => some (0, d)) ++ List.replicate (n - args.length) none)).bind fun
  | .ok .nx _ => .ret (.ok true .non)
  | .ok (.rt n d) _ => .ret (.ok (n == 1 && top d == 1) d)
  | .err x _ => .ret (.err x)
  | _ => .ret .no
end G

/-! G.Rep: what a datum looks like in the tracked heap; who owns what; readings by monadic values. -/
namespace G
open PySem L2

/-- the world; where the source of draws stands -/
structure Rn where
  w : World
  r : Option (Addr × Addr)
  /-- the classes: where they stand, their errors' field -/
  ca : Nat → Addr := fun _ => 0
  cf : Nat → List Str := fun _ => []
  /-- how many further numbers the source of draws has -/
  tl : Nat := 0
/-- a dict at a: its entries (keys by what they are, keys, values), its epoch -/
def DicP (w : World) (a : Addr) (es : List (NestedKey × V × V)) (ep : Nat) (h : Heap) : Prop :=
  ∃ (o : Obj) (des : Array DictEntry), h.get? a = some o ∧ o.ExactDict ∧ o.data = .dict des ep ∧ (a == sysModules) = false ∧ es.length ≤ sizeLine ∧ (es.map (·.1)).Nodup ∧
    Paired (fun (p : NestedKey × V × V) (en : DictEntry) => RelV p.2.1 en.key ∧ RelV p.2.2 en.val ∧ en.hash = p.1.hash w) es des.toList
def DicO (w : World) (a : Addr) (es : List (NestedKey × V × V)) (ep : Nat) : HO := .ext (DicP w a es ep)
/-- at a: an error of the class at C, its dict -/
def ExG (C a : Addr) (dd : Option Addr) : HO := .ext fun h => ∃ (oe : Obj) (vs : Array Value), h.get? a = some oe ∧ oe.cls = .ref C ∧ oe.dict = dd ∧ oe.data = .fields vs
section
variable (R : Rn) (H : Hp) (B : Addr → Prop)
/-- what an error's dict holds: n fields, at dd, the values xs -/
def XDict (c n : Nat) (dd : Option Addr) (xs : List V) : Prop := (R.cf c).length = n ∧ ((n = 0 ∧ dd = none) ∨ ∃ d, dd = some d ∧ ¬ B d ∧ H d = some (.xd ((R.cf c).zip xs)))
mutual
/-- the value v is the datum d; n: how deep it is owned; L: what is owned; B: what somebody owns -/
def Rep : Nat → D → V → List Addr → Prop
  | _, .non, v, L => v = .non ∧ L = []
  | _, .bl b, v, L => v = .bl b ∧ L = []
  | _, .int i, v, L => v = .int i ∧ L = []
  | _, .str x, v, L => v = .str x ∧ L = []
  | n, .tup l, v, L => ∃ a xs, v = .ref a ∧ H a = some (.tup xs) ∧ ¬ B a ∧ Reps n l xs L
  | 0, .lst l, v, L => ∃ a xs, v = .ref a ∧ H a = some (.lst xs) ∧ ¬ B a ∧ L = [] ∧ Reps 0 l xs []
  | n + 1, .lst l, v, L => ∃ a xs L', v = .ref a ∧ H a = some (.lst xs) ∧ L = a :: L' ∧ Reps n l xs L'
  | _, .rnd, v, L => L = [] ∧ ∃ r, R.r = some r ∧ v = .ref r.1
  | _, .scr l, v, L => L = [] ∧ ∃ a, v = .ref a ∧ Rd H a (.lst (l.map V.int)) ∧ ¬ B a
  | 0, .dct l, v, L => ∃ a es ep, v = .ref a ∧ H a = some (DicO R.w a es ep) ∧ ¬ B a ∧ L = [] ∧ RepK 0 l es []
  | n + 1, .dct l, v, L => ∃ a es ep L', v = .ref a ∧ H a = some (DicO R.w a es ep) ∧ L = a :: L' ∧ RepK n l es L'
  | _, .exn c fs, v, L => L = [] ∧ ∃ a dd xs, v = .ref a ∧ H a = some (ExG (R.ca c) a dd) ∧ ¬ B a ∧ Reps 0 fs xs [] ∧ XDict R H B c fs.length dd xs
  | _, _, _, _ => False
def RepK : Nat → List (D × D) → List (NestedKey × V × V) → List Addr → Prop
  | _, [], es, L => es = [] ∧ L = []
  | n, (k, d) :: r, es, L => ∃ nk kv v es' L1 L2, es = (nk, kv, v) :: es' ∧ L = L1 ++ L2 ∧ k.nk = some nk ∧ Rep 0 k kv [] ∧ Rep n d v L1 ∧ RepK n r es' L2
def Reps : Nat → List D → List V → List Addr → Prop
  | _, [], xs, L => xs = [] ∧ L = []
  | n, d :: r, xs, L => ∃ v vs L1 L2, xs = v :: vs ∧ L = L1 ++ L2 ∧ Rep n d v L1 ∧ Reps n r vs L2
end
end
section
variable {R : Rn} {H H' : Hp} {B B' : Addr → Prop}
theorem XDict.step {c n : Nat} {dd : Option Addr} {xs : List V} (hx : ∀ a o, H a = some o → ¬ B a → H' a = some o) (hb : ∀ a, B' a → B a ∨ H a = none) (h : XDict R H B c n dd xs) : XDict R H' B' c n dd xs := by
  obtain ⟨h1, h2⟩ := h
  refine ⟨h1, ?_⟩
  rcases h2 with h2 | ⟨d, e, nb, q⟩
  · exact .inl h2
  · exact .inr ⟨d, e, fun z => (hb d z).elim nb fun y => (by rw [q] at y; cases y), hx d _ q nb⟩
mutual
theorem Rep.step (hx : ∀ a o, H a = some o → ¬ B a → H' a = some o) (hb : ∀ a, B' a → B a ∨ H a = none) : ∀ (n : Nat) (d : D) (v : V) (L : List Addr), (∀ a ∈ L, H' a = H a) → Rep R H B n d v L → Rep R H' B' n d v L
  | _, .non, v, L, _, h => by simpa [Rep] using h
  | _, .bl b, v, L, _, h => by simpa [Rep] using h
  | _, .int i, v, L, _, h => by simpa [Rep] using h
  | _, .str x, v, L, _, h => by simpa [Rep] using h
  | n, .tup l, v, L, hL, h => by
    simp only [Rep] at h ⊢
    obtain ⟨a, xs, rfl, e, nb, hr⟩ := h
    exact ⟨a, xs, rfl, hx a _ e nb, fun z => (hb a z).elim nb fun q => (by rw [e] at q; cases q), Reps.step hx hb n l xs L hL hr⟩
  | 0, .lst l, v, L, hL, h => by
    simp only [Rep] at h ⊢
    obtain ⟨a, xs, rfl, e, nb, rfl, hr⟩ := h
    exact ⟨a, xs, rfl, hx a _ e nb, fun z => (hb a z).elim nb fun q => (by rw [e] at q; cases q), rfl, Reps.step hx hb 0 l xs [] (fun _ z => nomatch z) hr⟩
  | n + 1, .lst l, v, L, hL, h => by
    simp only [Rep] at h ⊢
    obtain ⟨a, xs, L', rfl, e, rfl, hr⟩ := h
    exact ⟨a, xs, L', rfl, (hL a List.mem_cons_self).trans e, rfl, Reps.step hx hb n l xs L' (fun b hb => hL b (List.mem_cons_of_mem _ hb)) hr⟩
  | _, .rnd, v, L, _, h => by simpa [Rep] using h
  | _, .scr l, v, L, _, h => by
    simp only [Rep] at h ⊢
    obtain ⟨rfl, a, rfl, e, nb⟩ := h
    refine ⟨rfl, a, rfl, ?_, fun z => (hb a z).elim nb fun q => ?_⟩
    · rcases e with e | ⟨o, e⟩
      · exact .inl (hx a _ e nb)
      · exact .inr ⟨o, hx a _ e nb⟩
    · rcases e with e | ⟨o, e⟩ <;> (rw [e] at q; cases q)
  | 0, .dct l, v, L, hL, h => by
    simp only [Rep] at h ⊢
    obtain ⟨a, es, ep, rfl, e, nb, rfl, hr⟩ := h
    exact ⟨a, es, ep, rfl, hx a _ e nb, fun z => (hb a z).elim nb fun q => (by rw [e] at q; cases q), rfl, RepK.step hx hb 0 l es [] (fun _ z => nomatch z) hr⟩
  | n + 1, .dct l, v, L, hL, h => by
    simp only [Rep] at h ⊢
    obtain ⟨a, es, ep, L', rfl, e, rfl, hr⟩ := h
    exact ⟨a, es, ep, L', rfl, (hL a List.mem_cons_self).trans e, rfl, RepK.step hx hb n l es L' (fun b hb => hL b (List.mem_cons_of_mem _ hb)) hr⟩
  | _, .set _, _, _, _, h => by simp [Rep] at h
  | _, .ins _ _, _, _, _, h => by simp [Rep] at h
  | n, .exn c fs, v, L, hL, h => by
    simp only [Rep] at h ⊢
    obtain ⟨rfl, a, dd, xs, rfl, e, nb, hr, hd⟩ := h
    exact ⟨rfl, a, dd, xs, rfl, hx a _ e nb, fun z => (hb a z).elim nb fun q => (by rw [e] at q; cases q), Reps.step hx hb 0 fs xs [] (fun _ z => nomatch z) hr, hd.step hx hb⟩
  | _, .clo _ _, _, _, _, h => by simp [Rep] at h
theorem RepK.step (hx : ∀ a o, H a = some o → ¬ B a → H' a = some o) (hb : ∀ a, B' a → B a ∨ H a = none) : ∀ (n : Nat) (ds : List (D × D)) (es : List (NestedKey × V × V)) (L : List Addr), (∀ a ∈ L, H' a = H a) → RepK R H B n ds es L → RepK R H' B' n ds es L
  | _, [], es, L, _, h => by simpa [RepK] using h
  | n, (k, d) :: r, es, L, hL, h => by
    simp only [RepK] at h ⊢
    obtain ⟨nk, kv, v, es', L1, L2, rfl, rfl, hk, h0, h1, h2⟩ := h
    exact ⟨nk, kv, v, es', L1, L2, rfl, rfl, hk, Rep.step hx hb 0 k kv [] (fun _ z => nomatch z) h0, Rep.step hx hb n d v L1 (fun a z => hL a (List.mem_append_left _ z)) h1, RepK.step hx hb n r es' L2 (fun a z => hL a (List.mem_append_right _ z)) h2⟩
theorem Reps.step (hx : ∀ a o, H a = some o → ¬ B a → H' a = some o) (hb : ∀ a, B' a → B a ∨ H a = none) : ∀ (n : Nat) (ds : List D) (vs : List V) (L : List Addr), (∀ a ∈ L, H' a = H a) → Reps R H B n ds vs L → Reps R H' B' n ds vs L
  | _, [], vs, L, _, h => by simpa [Reps] using h
  | n, d :: r, vs, L, hL, h => by
    simp only [Reps] at h ⊢
    obtain ⟨v, vs', L1, L2, rfl, rfl, h1, h2⟩ := h
    exact ⟨v, vs', L1, L2, rfl, rfl, Rep.step hx hb n d v L1 (fun a z => hL a (List.mem_append_left _ z)) h1, Reps.step hx hb n r vs' L2 (fun a z => hL a (List.mem_append_right _ z)) h2⟩
end
mutual
/-- what is owned is given away -/
theorem Rep.frz : ∀ (n : Nat) (d : D) (v : V) (L : List Addr), (∀ a, B' a → (B a ∨ H a = none) ∧ a ∉ L) → Rep R H B n d v L → Rep R H B' 0 d v []
  | _, .non, v, L, _, h => by simp only [Rep] at h ⊢; exact ⟨h.1, trivial⟩
  | _, .bl b, v, L, _, h => by simp only [Rep] at h ⊢; exact ⟨h.1, trivial⟩
  | _, .int i, v, L, _, h => by simp only [Rep] at h ⊢; exact ⟨h.1, trivial⟩
  | _, .str x, v, L, _, h => by simp only [Rep] at h ⊢; exact ⟨h.1, trivial⟩
  | n, .tup l, v, L, hb, h => by
    simp only [Rep] at h ⊢
    obtain ⟨a, xs, rfl, e, nb, hr⟩ := h
    exact ⟨a, xs, rfl, e, fun z => (hb a z).1.elim nb fun q => (by rw [e] at q; cases q), Reps.frz n l xs L hb hr⟩
  | 0, .lst l, v, L, hb, h => by
    simp only [Rep] at h ⊢
    obtain ⟨a, xs, rfl, e, nb, rfl, hr⟩ := h
    exact ⟨a, xs, rfl, e, fun z => (hb a z).1.elim nb fun q => (by rw [e] at q; cases q), trivial, Reps.frz 0 l xs [] hb hr⟩
  | n + 1, .lst l, v, L, hb, h => by
    simp only [Rep] at h ⊢
    obtain ⟨a, xs, L', rfl, e, rfl, hr⟩ := h
    exact ⟨a, xs, rfl, e, fun z => (hb a z).2 List.mem_cons_self, trivial, Reps.frz n l xs L' (fun b z => ⟨(hb b z).1, fun q => (hb b z).2 (List.mem_cons_of_mem _ q)⟩) hr⟩
  | _, .rnd, v, L, _, h => by simp only [Rep] at h ⊢; exact ⟨trivial, h.2⟩
  | _, .scr l, v, L, hb, h => by
    simp only [Rep] at h ⊢
    obtain ⟨rfl, a, rfl, e, nb⟩ := h
    refine ⟨trivial, a, rfl, e, fun z => (hb a z).1.elim nb fun q => ?_⟩
    rcases e with e | ⟨o, e⟩ <;> (rw [e] at q; cases q)
  | 0, .dct l, v, L, hb, h => by
    simp only [Rep] at h ⊢
    obtain ⟨a, es, ep, rfl, e, nb, rfl, hr⟩ := h
    exact ⟨a, es, ep, rfl, e, fun z => (hb a z).1.elim nb fun q => (by rw [e] at q; cases q), trivial, RepK.frz 0 l es [] hb hr⟩
  | n + 1, .dct l, v, L, hb, h => by
    simp only [Rep] at h ⊢
    obtain ⟨a, es, ep, L', rfl, e, rfl, hr⟩ := h
    exact ⟨a, es, ep, rfl, e, fun z => (hb a z).2 List.mem_cons_self, trivial, RepK.frz n l es L' (fun b z => ⟨(hb b z).1, fun q => (hb b z).2 (List.mem_cons_of_mem _ q)⟩) hr⟩
  | _, .set _, _, _, _, h => by simp [Rep] at h
  | _, .ins _ _, _, _, _, h => by simp [Rep] at h
  | n, .exn c fs, v, L, hb, h => by
    simp only [Rep] at h ⊢
    obtain ⟨rfl, a, dd, xs, rfl, e, nb, hr, hd⟩ := h
    exact ⟨trivial, a, dd, xs, rfl, e, fun z => (hb a z).1.elim nb fun q => (by rw [e] at q; cases q), Reps.frz 0 fs xs [] (fun a z => ⟨(hb a z).1, fun q => nomatch q⟩) hr, hd.step (fun _ _ e _ => e) fun a z => (hb a z).1⟩
  | _, .clo _ _, _, _, _, h => by simp [Rep] at h
theorem RepK.frz : ∀ (n : Nat) (ds : List (D × D)) (es : List (NestedKey × V × V)) (L : List Addr), (∀ a, B' a → (B a ∨ H a = none) ∧ a ∉ L) → RepK R H B n ds es L → RepK R H B' 0 ds es []
  | _, [], es, L, _, h => by simp only [RepK] at h ⊢; exact ⟨h.1, trivial⟩
  | n, (k, d) :: r, es, L, hb, h => by
    simp only [RepK] at h ⊢
    obtain ⟨nk, kv, v, es', L1, L2, rfl, rfl, hk, h0, h1, h2⟩ := h
    exact ⟨nk, kv, v, es', [], [], rfl, rfl, hk, Rep.frz 0 k kv [] (fun a z => ⟨(hb a z).1, fun q => nomatch q⟩) h0, Rep.frz n d v L1 (fun a z => ⟨(hb a z).1, fun q => (hb a z).2 (List.mem_append_left _ q)⟩) h1,
      RepK.frz n r es' L2 (fun a z => ⟨(hb a z).1, fun q => (hb a z).2 (List.mem_append_right _ q)⟩) h2⟩
theorem Reps.frz : ∀ (n : Nat) (ds : List D) (vs : List V) (L : List Addr), (∀ a, B' a → (B a ∨ H a = none) ∧ a ∉ L) → Reps R H B n ds vs L → Reps R H B' 0 ds vs []
  | _, [], vs, L, _, h => by simp only [Reps] at h ⊢; exact ⟨h.1, trivial⟩
  | n, d :: r, vs, L, hb, h => by
    simp only [Reps] at h ⊢
    obtain ⟨v, vs', L1, L2, rfl, rfl, h1, h2⟩ := h
    exact ⟨v, vs', [], [], rfl, rfl, Rep.frz n d v L1 (fun a z => ⟨(hb a z).1, fun q => (hb a z).2 (List.mem_append_left _ q)⟩) h1, Reps.frz n r vs' L2 (fun a z => ⟨(hb a z).1, fun q => (hb a z).2 (List.mem_append_right _ q)⟩) h2⟩
end
mutual
theorem Rep.zero : ∀ (d : D) (v : V) (L : List Addr), Rep R H B 0 d v L → L = []
  | .non, v, L, h => by simp only [Rep] at h; exact h.2
  | .bl b, v, L, h => by simp only [Rep] at h; exact h.2
  | .int i, v, L, h => by simp only [Rep] at h; exact h.2
  | .str x, v, L, h => by simp only [Rep] at h; exact h.2
  | .tup l, v, L, h => by
    simp only [Rep] at h
    obtain ⟨a, xs, rfl, e, nb, hr⟩ := h
    exact Reps.zero l xs L hr
  | .lst l, v, L, h => by
    simp only [Rep] at h
    obtain ⟨a, xs, rfl, e, nb, rfl, hr⟩ := h
    rfl
  | .rnd, v, L, h => by simp only [Rep] at h; exact h.1
  | .scr _, v, L, h => by simp only [Rep] at h; exact h.1
  | .dct l, v, L, h => by
    simp only [Rep] at h
    obtain ⟨a, es, ep, rfl, e, nb, rfl, hr⟩ := h
    rfl
  | .set _, _, _, h => by simp [Rep] at h
  | .ins _ _, _, _, h => by simp [Rep] at h
  | .exn _ _, _, _, h => by simp only [Rep] at h; exact h.1
  | .clo _ _, _, _, h => by simp [Rep] at h
theorem RepK.zero : ∀ (ds : List (D × D)) (es : List (NestedKey × V × V)) (L : List Addr), RepK R H B 0 ds es L → L = []
  | [], es, L, h => by simp only [RepK] at h; exact h.2
  | (k, d) :: r, es, L, h => by
    simp only [RepK] at h
    obtain ⟨nk, kv, v, es', L1, L2, rfl, rfl, hk, h0, h1, h2⟩ := h
    rw [Rep.zero d v L1 h1, RepK.zero r es' L2 h2]
    rfl
theorem Reps.zero : ∀ (ds : List D) (vs : List V) (L : List Addr), Reps R H B 0 ds vs L → L = []
  | [], vs, L, h => by simp only [Reps] at h; exact h.2
  | d :: r, vs, L, h => by
    simp only [Reps] at h
    obtain ⟨v, vs', L1, L2, rfl, rfl, h1, h2⟩ := h
    rw [Rep.zero d v L1 h1, Reps.zero r vs' L2 h2]
    rfl
end
mutual
/-- what cannot change is the same at any depth, whoever owns what -/
theorem Rep.fixed : ∀ (d : D) (n : Nat) (v : V) (L : List Addr), d.fix = true → Rep R H B n d v L → L = [] ∧ ∀ m, Rep R H B m d v []
  | .non, n, v, L, _, h => by simp only [Rep] at h; exact ⟨h.2, fun m => by simp only [Rep]; exact ⟨h.1, trivial⟩⟩
  | .bl b, n, v, L, _, h => by simp only [Rep] at h; exact ⟨h.2, fun m => by simp only [Rep]; exact ⟨h.1, trivial⟩⟩
  | .int i, n, v, L, _, h => by simp only [Rep] at h; exact ⟨h.2, fun m => by simp only [Rep]; exact ⟨h.1, trivial⟩⟩
  | .str x, n, v, L, _, h => by simp only [Rep] at h; exact ⟨h.2, fun m => by simp only [Rep]; exact ⟨h.1, trivial⟩⟩
  | .tup l, n, v, L, f, h => by
    simp only [Rep] at h
    simp only [D.fix] at f
    obtain ⟨a, xs, rfl, e, nb, hr⟩ := h
    obtain ⟨z, k⟩ := Reps.fixed l n xs L f hr
    exact ⟨z, fun m => by simp only [Rep]; exact ⟨a, xs, rfl, e, nb, k m⟩⟩
  | .rnd, n, v, L, _, h => by simp only [Rep] at h; exact ⟨h.1, fun m => by simp only [Rep]; exact ⟨trivial, h.2⟩⟩
  | .scr _, n, v, L, _, h => by simp only [Rep] at h; exact ⟨h.1, fun m => by simp only [Rep]; exact ⟨trivial, h.2⟩⟩
  | .lst _, _, _, _, f, h => by simp [D.fix] at f
  | .dct _, _, _, _, f, h => by simp [D.fix] at f
  | .set _, _, _, _, f, h => by simp [Rep] at h
  | .ins _ _, _, _, _, f, h => by simp [Rep] at h
  | .exn _ _, _, _, _, f, h => by simp [D.fix] at f
  | .clo _ _, _, _, _, f, h => by simp [Rep] at h
theorem Reps.fixed : ∀ (ds : List D) (n : Nat) (vs : List V) (L : List Addr), D.fixs ds = true → Reps R H B n ds vs L → L = [] ∧ ∀ m, Reps R H B m ds vs []
  | [], n, vs, L, _, h => by simp only [Reps] at h; exact ⟨h.2, fun m => by simp only [Reps]; exact ⟨h.1, trivial⟩⟩
  | d :: r, n, vs, L, f, h => by
    simp only [Reps] at h
    simp only [D.fixs, Bool.and_eq_true] at f
    obtain ⟨v, vs', L1, L2, rfl, rfl, h1, h2⟩ := h
    obtain ⟨z1, k1⟩ := Rep.fixed d n v L1 f.1 h1
    obtain ⟨z2, k2⟩ := Reps.fixed r n vs' L2 f.2 h2
    subst z1 z2
    exact ⟨rfl, fun m => by simp only [Reps]; exact ⟨v, vs', [], [], rfl, rfl, k1 m, k2 m⟩⟩
end
mutual
/-- what is owned is there, and may be written -/
theorem Rep.has : ∀ (n : Nat) (d : D) (v : V) (L : List Addr), Rep R H B n d v L → ∀ a ∈ L, ∃ o, H a = some o
  | _, .non, v, L, h => by simp only [Rep] at h; rw [h.2]; exact fun _ z => nomatch z
  | _, .bl b, v, L, h => by simp only [Rep] at h; rw [h.2]; exact fun _ z => nomatch z
  | _, .int i, v, L, h => by simp only [Rep] at h; rw [h.2]; exact fun _ z => nomatch z
  | _, .str x, v, L, h => by simp only [Rep] at h; rw [h.2]; exact fun _ z => nomatch z
  | n, .tup l, v, L, h => by
    simp only [Rep] at h
    obtain ⟨a, xs, rfl, e, nb, hr⟩ := h
    exact Reps.has n l xs L hr
  | 0, .lst l, v, L, h => by
    simp only [Rep] at h
    obtain ⟨a, xs, rfl, e, nb, rfl, hr⟩ := h
    exact fun _ z => nomatch z
  | n + 1, .lst l, v, L, h => by
    simp only [Rep] at h
    obtain ⟨a, xs, L', rfl, e, rfl, hr⟩ := h
    intro b hb
    rcases List.mem_cons.mp hb with rfl | hb
    · exact ⟨_, e⟩
    · exact Reps.has n l xs L' hr b hb
  | _, .rnd, v, L, h => by simp only [Rep] at h; rw [h.1]; exact fun _ z => nomatch z
  | _, .scr _, v, L, h => by simp only [Rep] at h; rw [h.1]; exact fun _ z => nomatch z
  | 0, .dct l, v, L, h => by
    simp only [Rep] at h
    obtain ⟨a, es, ep, rfl, e, nb, rfl, hr⟩ := h
    exact fun _ z => nomatch z
  | n + 1, .dct l, v, L, h => by
    simp only [Rep] at h
    obtain ⟨a, es, ep, L', rfl, e, rfl, hr⟩ := h
    intro b hb
    rcases List.mem_cons.mp hb with rfl | hb
    · exact ⟨_, e⟩
    · exact RepK.has n l es L' hr b hb
  | _, .set _, _, _, h => by simp [Rep] at h
  | _, .ins _ _, _, _, h => by simp [Rep] at h
  | _, .exn _ _, _, _, h => by simp only [Rep] at h; rw [h.1]; exact fun _ z => nomatch z
  | _, .clo _ _, _, _, h => by simp [Rep] at h
theorem RepK.has : ∀ (n : Nat) (ds : List (D × D)) (es : List (NestedKey × V × V)) (L : List Addr), RepK R H B n ds es L → ∀ a ∈ L, ∃ o, H a = some o
  | _, [], es, L, h => by simp only [RepK] at h; rw [h.2]; exact fun _ z => nomatch z
  | n, (k, d) :: r, es, L, h => by
    simp only [RepK] at h
    obtain ⟨nk, kv, v, es', L1, L2, rfl, rfl, hk, h0, h1, h2⟩ := h
    intro a ha
    rcases List.mem_append.mp ha with z | z
    · exact Rep.has n d v L1 h1 a z
    · exact RepK.has n r es' L2 h2 a z
theorem Reps.has : ∀ (n : Nat) (ds : List D) (vs : List V) (L : List Addr), Reps R H B n ds vs L → ∀ a ∈ L, ∃ o, H a = some o
  | _, [], vs, L, h => by simp only [Reps] at h; rw [h.2]; exact fun _ z => nomatch z
  | n, d :: r, vs, L, h => by
    simp only [Reps] at h
    obtain ⟨v, vs', L1, L2, rfl, rfl, h1, h2⟩ := h
    intro a ha
    rcases List.mem_append.mp ha with z | z
    · exact Rep.has n d v L1 h1 a z
    · exact Reps.has n r vs' L2 h2 a z
end
theorem Reps.length : ∀ {n : Nat} {ds : List D} {vs : List V} {L : List Addr}, Reps R H B n ds vs L → vs.length = ds.length
  | _, [], vs, L, h => by simp only [Reps] at h; rw [h.1]; rfl
  | n, d :: r, vs, L, h => by
    simp only [Reps] at h
    obtain ⟨v, vs', L1, L2, rfl, rfl, h1, h2⟩ := h
    simp [Reps.length h2]
theorem RepK.length : ∀ {n : Nat} {ds : List (D × D)} {es : List (NestedKey × V × V)} {L : List Addr}, RepK R H B n ds es L → es.length = ds.length
  | _, [], es, L, h => by simp only [RepK] at h; rw [h.1]; rfl
  | n, (k, d) :: r, es, L, h => by
    simp only [RepK] at h
    obtain ⟨nk, kv, v, es', L1, L2, rfl, rfl, hk, h0, h1, h2⟩ := h
    simp [RepK.length h2]
end
end G

/-! G.Good: the state of a body: slots, owners, the source of draws; readings by monadic values. -/
namespace G
open PySem L2

/-- the source of draws: all that is asked of it is that it goes on -/
def RndOk (H : Hp) (R : Rn) : Prop := match R.r with
  | none => True
  | some r => ∃ (i m : Int) (cs tl : List Int), r.1 ≠ r.2 ∧ H r.1 = some (.lst (.ref r.2 :: .int i :: .int m :: tl.map V.int)) ∧ H r.2 = some (.lst (cs.map V.int)) ∧ 0 ≤ i ∧ 0 ≤ m ∧ m < 2147483648 ∧ cs ≠ [] ∧ cs.length ≤ 63 ∧ tl.length = R.tl
def RnA (R : Rn) (a : Addr) : Prop := ∃ r, R.r = some r ∧ (a = r.1 ∨ a = r.2)
/-- what somebody owns -/
def Bn (R : Rn) (Ls : Nat → List Addr) (F : List Addr) (a : Addr) : Prop := a ∈ F ∨ (∃ i, a ∈ Ls i) ∨ RnA R a

structure Good (R : Rn) (σ : St) (e : Env) (H : Hp) (Ls : Nat → List Addr) (F : List Addr) : Prop where
  len : e.length = σ.length
  rep : ∀ i n d, e[i]? = some (some (n, d)) → ∃ v, σ[i]? = some (some v) ∧ Rep R H (Bn R Ls F) n d v (Ls i)
  nd : ∀ i, (Ls i).Nodup
  dis : ∀ i j, i ≠ j → ∀ a ∈ Ls i, a ∉ Ls j
  fr : ∀ i, ∀ a ∈ Ls i, a ∉ F
  fd : F.Nodup
  has : ∀ a, Bn R Ls F a → ∃ o, H a = some o
  rnd : RndOk H R
  ra : ∀ a, RnA R a → a ∉ F ∧ ∀ i, a ∉ Ls i

/-- from H to H': nothing that nobody owns changes, the frame F stays, only new things come to be owned -/
structure Step (H : Hp) (B : Addr → Prop) (H' : Hp) (B' : Addr → Prop) (F : List Addr) : Prop where
  ext : ∀ a o, H a = some o → ¬ B a → H' a = some o
  frm : ∀ a ∈ F, H' a = H a
  bn : ∀ a, B' a → B a ∨ H a = none
theorem Step.refl {H : Hp} {B : Addr → Prop} {F : List Addr} : Step H B H B F := ⟨fun _ _ e _ => e, fun _ _ => rfl, fun _ h => .inl h⟩
theorem Step.trans {H H1 H2 : Hp} {B B1 B2 : Addr → Prop} {F F1 : List Addr} (s : Step H B H1 B1 F) (t : Step H1 B1 H2 B2 F1) (hF : ∀ a ∈ F, a ∈ F1) : Step H B H2 B2 F where
  ext := fun a o e nb => t.ext a o (s.ext a o e nb) fun z => (s.bn a z).elim nb fun q => by rw [e] at q; cases q
  frm := fun a h => (t.frm a (hF a h)).trans (s.frm a h)
  bn := fun a h => by
    rcases t.bn a h with z | z
    · exact s.bn a z
    · cases e : H a with
      | none => exact .inr rfl
      | some o =>
        refine .inl (Classical.byContradiction fun nb => ?_)
        rw [s.ext a o e nb] at z
        cases z
theorem Rep.by {R : Rn} {H H' : Hp} {B B' : Addr → Prop} {F : List Addr} {n : Nat} {d : D} {v : V} {L : List Addr} (s : Step H B H' B' F) (hL : ∀ a ∈ L, H' a = H a) (h : Rep R H B n d v L) : Rep R H' B' n d v L := Rep.step s.ext s.bn n d v L hL h
theorem Reps.by {R : Rn} {H H' : Hp} {B B' : Addr → Prop} {F : List Addr} {n : Nat} {d : List D} {v : List V} {L : List Addr} (s : Step H B H' B' F) (hL : ∀ a ∈ L, H' a = H a) (h : Reps R H B n d v L) : Reps R H' B' n d v L := Reps.step s.ext s.bn n d v L hL h

/-! ### what is wanted behind a value, a place, places, a test, a statement -/
/-- what is wanted of an error: the datum, the slots, the heap -/
abbrev WD := D → Value → Option Addr → St → Hp → Prop
/-- an error as the heap holds it: its class, its own dict -/
def XRep (R : Rn) (H : Hp) (B : Addr → Prop) (x : D) (cls : Value) (dd : Option Addr) : Prop := ∃ c fs vs, x = .exn c fs ∧ cls = .ref (R.ca c) ∧ Reps R H B 0 fs vs [] ∧ XDict R H B c fs.length dd vs
theorem XRep.by {R : Rn} {H H' : Hp} {B B' : Addr → Prop} {F : List Addr} {x : D} {cls : Value} {dd : Option Addr} (s : Step H B H' B' F) (h : XRep R H B x cls dd) : XRep R H' B' x cls dd := by
  obtain ⟨c, fs, vs, e1, e2, r, z⟩ := h
  exact ⟨c, fs, vs, e1, e2, Reps.by (L := []) s (fun _ z => nomatch z) r, z.step s.ext s.bn⟩
section
variable (R : Rn) (W : WD)
def ErrK (σ : St) (H : Hp) (B : Addr → Prop) (F : List Addr) (x : D) (e : Env) : Prop := ∀ H' Ls', Step H B H' (Bn R Ls' F) F → Good R σ e H' Ls' F → ∀ cls dd, XRep R H' (Bn R Ls' F) x cls dd → W x cls dd σ H'
def PostV (σ : St) (H : Hp) (B : Addr → Prop) (F : List Addr) (Q : VK) : Rs (Nat × D) → Prop
  | .ok r e => ∀ v H' Ls' Lt, Step H B H' (Bn R Ls' (Lt ++ F)) F → Good R σ e H' Ls' (Lt ++ F) → Rep R H' (Bn R Ls' (Lt ++ F)) r.1 r.2 v Lt → Q v H'
  | .err x e => ErrK R W σ H B F x e
  | .no => False
def tV (m : M (Nat × D)) : TE := fun σ H Q => ∃ e Ls F, Good R σ e H Ls F ∧ (m e).All (PostV R W σ H (Bn R Ls F) F Q)
/-- a place's value -/
def PRep (H : Hp) (B : Addr → Prop) (σ : St) : Pl → V → List Addr → Prop
  | .t n d, v, L => Rep R H B n d v L
  | .v i, v, L => L = [] ∧ σ[i]? = some (some v)
def PReps (H : Hp) (B : Addr → Prop) (σ : St) : List Pl → List V → List Addr → Prop
  | [], vs, L => vs = [] ∧ L = []
  | p :: r, vs, L => ∃ v vs' L1 L2, vs = v :: vs' ∧ L = L1 ++ L2 ∧ PRep R H B σ p v L1 ∧ PReps H B σ r vs' L2
def PostP (σ : St) (H : Hp) (B : Addr → Prop) (F : List Addr) (Q : VK) : Rs Pl → Prop
  | .ok p e => ∀ v H' Ls' Lt, Step H B H' (Bn R Ls' (Lt ++ F)) F → Good R σ e H' Ls' (Lt ++ F) → PRep R H' (Bn R Ls' (Lt ++ F)) σ p v Lt → Q v H'
  | .err x e => ErrK R W σ H B F x e
  | .no => False
def tP (m : M Pl) : TE := fun σ H Q => ∃ e Ls F, Good R σ e H Ls F ∧ (m e).All (PostP R W σ H (Bn R Ls F) F Q)
def PostA (σ : St) (H : Hp) (B : Addr → Prop) (F : List Addr) (Q : List V → Hp → Prop) : Rs (List Pl) → Prop
  | .ok p e => ∀ vs H' Ls' Lt, Step H B H' (Bn R Ls' (Lt ++ F)) F → Good R σ e H' Ls' (Lt ++ F) → PReps R H' (Bn R Ls' (Lt ++ F)) σ p vs Lt → Q vs H'
  | .err x e => ErrK R W σ H B F x e
  | .no => False
def tA (m : M (List Pl)) : TA := fun σ H Q => ∃ e Ls F, Good R σ e H Ls F ∧ (m e).All (PostA R W σ H (Bn R Ls F) F Q)
def PostT (σ : St) (H : Hp) (B : Addr → Prop) (F : List Addr) (Q : Bool → Hp → Prop) : Rs Bool → Prop
  | .ok b e => ∀ H' Ls', Step H B H' (Bn R Ls' F) F → Good R σ e H' Ls' F → Q b H'
  | .err x e => ErrK R W σ H B F x e
  | .no => False
def tT (m : M Bool) : TT := fun σ H Q => ∃ e Ls F, Good R σ e H Ls F ∧ (m e).All (PostT R W σ H (Bn R Ls F) F Q)
def PostS (H : Hp) (B : Addr → Prop) (F : List Addr) (D : Ends) : Rs Fl → Prop
  | .ok .nx e => ∀ σ' H' Ls', Step H B H' (Bn R Ls' F) F → Good R σ' e H' Ls' F → D.nx σ' H'
  | .ok .bk e => ∀ σ' H' Ls', Step H B H' (Bn R Ls' F) F → Good R σ' e H' Ls' F → D.bk σ' H'
  | .ok .ct e => ∀ σ' H' Ls', Step H B H' (Bn R Ls' F) F → Good R σ' e H' Ls' F → D.ct σ' H'
  | .ok (.rt n d) e => ∀ v σ' H' Ls' Lt, Step H B H' (Bn R Ls' (Lt ++ F)) F → Good R σ' e H' Ls' (Lt ++ F) → Rep R H' (Bn R Ls' (Lt ++ F)) n d v Lt → D.rt v H'
  | .err x e => ∀ σ' H' Ls', Step H B H' (Bn R Ls' F) F → Good R σ' e H' Ls' F → ∀ cls dd, XRep R H' (Bn R Ls' F) x cls dd → W x cls dd σ' H'
  | .no => False
def tS (m : M Fl) : TS := fun D σ H => ∃ e Ls F, Good R σ e H Ls F ∧ (m e).All (PostS R W H (Bn R Ls F) F D)
end

/-! ### one behind another -/
section
variable {R : Rn} {W : WD} {α β : Type}
theorem all_mb {m : M α} {f : α → M β} {e : Env} {P : Rs β → Prop} : (mb m f e).All P ↔ (m e).All fun r => (mk f r).All P := Tr.all_bind
theorem all_pu {a : α} {e : Env} {P : Rs α → Prop} : (pu a e).All P ↔ P (.ok a e) := Iff.rfl
/-- a place, then more -/
theorem tP_then {m : M Pl} {f : Pl → M β} {P : Rs β → Prop} {σ : St} {H : Hp} {e : Env} {Ls : Nat → List Addr} {F : List Addr} {Q : VK} (G : Good R σ e H Ls F) (h : (mb m f e).All P) (he : ∀ x e, P (.err x e) → ErrK R W σ H (Bn R Ls F) F x e) (hn : ¬ P .no)
    (k : ∀ p e' v H' Ls' Lt, (f p e').All P → Step H (Bn R Ls F) H' (Bn R Ls' (Lt ++ F)) F → Good R σ e' H' Ls' (Lt ++ F) → PRep R H' (Bn R Ls' (Lt ++ F)) σ p v Lt → Q v H') : tP R W m σ H Q := by
  refine ⟨e, Ls, F, G, (all_mb.mp h).mono fun r hr => ?_⟩
  cases r with
  | ok p e' => exact fun v H' Ls' Lt s g x => k p e' v H' Ls' Lt hr s g x
  | err x e' => exact he _ _ hr
  | no => exact hn hr
theorem tV_then {m : M (Nat × D)} {f : Nat × D → M β} {P : Rs β → Prop} {σ : St} {H : Hp} {e : Env} {Ls : Nat → List Addr} {F : List Addr} {Q : VK} (G : Good R σ e H Ls F) (h : (mb m f e).All P) (he : ∀ x e, P (.err x e) → ErrK R W σ H (Bn R Ls F) F x e) (hn : ¬ P .no)
    (k : ∀ r e' v H' Ls' Lt, (f r e').All P → Step H (Bn R Ls F) H' (Bn R Ls' (Lt ++ F)) F → Good R σ e' H' Ls' (Lt ++ F) → Rep R H' (Bn R Ls' (Lt ++ F)) r.1 r.2 v Lt → Q v H') : tV R W m σ H Q := by
  refine ⟨e, Ls, F, G, (all_mb.mp h).mono fun r hr => ?_⟩
  cases r with
  | ok p e' => exact fun v H' Ls' Lt s g x => k p e' v H' Ls' Lt hr s g x
  | err x e' => exact he _ _ hr
  | no => exact hn hr
theorem tA_then {m : M (List Pl)} {f : List Pl → M β} {P : Rs β → Prop} {σ : St} {H : Hp} {e : Env} {Ls : Nat → List Addr} {F : List Addr} {Q : List V → Hp → Prop} (G : Good R σ e H Ls F) (h : (mb m f e).All P) (he : ∀ x e, P (.err x e) → ErrK R W σ H (Bn R Ls F) F x e) (hn : ¬ P .no)
    (k : ∀ r e' v H' Ls' Lt, (f r e').All P → Step H (Bn R Ls F) H' (Bn R Ls' (Lt ++ F)) F → Good R σ e' H' Ls' (Lt ++ F) → PReps R H' (Bn R Ls' (Lt ++ F)) σ r v Lt → Q v H') : tA R W m σ H Q := by
  refine ⟨e, Ls, F, G, (all_mb.mp h).mono fun r hr => ?_⟩
  cases r with
  | ok p e' => exact fun v H' Ls' Lt s g x => k p e' v H' Ls' Lt hr s g x
  | err x e' => exact he _ _ hr
  | no => exact hn hr
theorem tT_then {m : M Bool} {f : Bool → M β} {P : Rs β → Prop} {σ : St} {H : Hp} {e : Env} {Ls : Nat → List Addr} {F : List Addr} {Q : Bool → Hp → Prop} (G : Good R σ e H Ls F) (h : (mb m f e).All P) (he : ∀ x e, P (.err x e) → ErrK R W σ H (Bn R Ls F) F x e) (hn : ¬ P .no)
    (k : ∀ b e' H' Ls', (f b e').All P → Step H (Bn R Ls F) H' (Bn R Ls' F) F → Good R σ e' H' Ls' F → Q b H') : tT R W m σ H Q := by
  refine ⟨e, Ls, F, G, (all_mb.mp h).mono fun r hr => ?_⟩
  cases r with
  | ok p e' => exact fun H' Ls' s g => k p e' H' Ls' hr s g
  | err x e' => exact he _ _ hr
  | no => exact hn hr
end

/-! ### slots -/
section
variable {R : Rn} {σ : St} {e : Env} {H : Hp} {Ls : Nat → List Addr} {F : List Addr}
def updL (Ls : Nat → List Addr) (i : Nat) (L : List Addr) : Nat → List Addr := fun j => if j = i then L else Ls j
theorem updL_same {i : Nat} {L : List Addr} : updL Ls i L i = L := by simp [updL]
theorem updL_ne {i j : Nat} {L : List Addr} (h : j ≠ i) : updL Ls i L j = Ls j := by simp [updL, h]
theorem updL_mem {i j : Nat} {L : List Addr} {a : Addr} (h : a ∈ updL Ls i L j) : (j = i ∧ a ∈ L) ∨ (j ≠ i ∧ a ∈ Ls j) := by
  by_cases e : j = i
  · subst e; rw [updL_same] at h; exact .inl ⟨rfl, h⟩
  · rw [updL_ne e] at h; exact .inr ⟨e, h⟩
/-- a temporary goes into a slot -/
theorem Good.put {Lt : List Addr} {n i : Nat} {d : D} {v : V} (g : Good R σ e H Ls (Lt ++ F)) (r : Rep R H (Bn R Ls (Lt ++ F)) n d v Lt) (hi : i < e.length) :
    Good R (σ.set i (some v)) (e.set i (some (n, d))) H (updL Ls i Lt) F ∧ Step H (Bn R Ls (Lt ++ F)) H (Bn R (updL Ls i Lt) F) F := by
  have hb : ∀ a, Bn R (updL Ls i Lt) F a → Bn R Ls (Lt ++ F) a := fun a h => by
    rcases h with h | ⟨j, h⟩ | h
    · exact .inl (List.mem_append_right _ h)
    · rcases updL_mem h with ⟨_, z⟩ | ⟨_, z⟩
      · exact .inl (List.mem_append_left _ z)
      · exact .inr (.inl ⟨j, z⟩)
    · exact .inr (.inr h)
  have st : Step H (Bn R Ls (Lt ++ F)) H (Bn R (updL Ls i Lt) F) F := ⟨fun _ _ e _ => e, fun _ _ => rfl, fun a h => .inl (hb a h)⟩
  have fd := List.nodup_append.mp g.fd
  refine ⟨⟨by simpa using g.len, fun j m d' h => ?_, fun j => ?_, fun j k hjk a ha hb' => ?_, fun j a ha hF => ?_, fd.2.1, fun a h => g.has a (hb a h), g.rnd, fun a h => ?_⟩, st⟩
  · by_cases hj : j = i
    · subst hj
      rw [List.getElem?_set_self hi] at h
      cases h
      exact ⟨v, by rw [List.getElem?_set_self (by rw [← g.len]; exact hi)], by rw [updL_same]; exact r.by st fun _ _ => rfl⟩
    · rw [List.getElem?_set_ne (Ne.symm hj)] at h
      obtain ⟨v', e1, r'⟩ := g.rep j m d' h
      exact ⟨v', by rw [List.getElem?_set_ne (Ne.symm hj)]; exact e1, by rw [updL_ne hj]; exact r'.by st fun _ _ => rfl⟩
  · by_cases hj : j = i
    · subst hj; rw [updL_same]; exact fd.1
    · rw [updL_ne hj]; exact g.nd j
  · rcases updL_mem ha with ⟨rfl, z⟩ | ⟨h1, z⟩ <;> rcases updL_mem hb' with ⟨rfl, y⟩ | ⟨h2, y⟩
    · exact hjk rfl
    · exact g.fr k a y (List.mem_append_left _ z)
    · exact g.fr j a z (List.mem_append_left _ y)
    · exact g.dis j k hjk a z y
  · rcases updL_mem ha with ⟨rfl, z⟩ | ⟨h1, z⟩
    · exact fd.2.2 a z a hF rfl
    · exact g.fr j a z (List.mem_append_right _ hF)
  · obtain ⟨h1, h2⟩ := g.ra a h
    refine ⟨fun z => h1 (List.mem_append_right _ z), fun j z => ?_⟩
    rcases updL_mem z with ⟨_, y⟩ | ⟨_, y⟩
    · exact h1 (List.mem_append_left _ y)
    · exact h2 j y
/-- a slot gives its datum away -/
theorem Good.give {n i : Nat} {d : D} (g : Good R σ e H Ls F) (hi : e[i]? = some (some (n, d))) :
    ∃ v, σ[i]? = some (some v) ∧ Good R σ (e.set i (some (0, d))) H (updL Ls i []) F ∧ Step H (Bn R Ls F) H (Bn R (updL Ls i []) F) F ∧ Rep R H (Bn R (updL Ls i []) F) 0 d v [] := by
  obtain ⟨v, e1, r⟩ := g.rep i n d hi
  have hb : ∀ a, Bn R (updL Ls i []) F a → Bn R Ls F a := fun a h => by
    rcases h with h | ⟨j, h⟩ | h
    · exact .inl h
    · rcases updL_mem h with ⟨_, z⟩ | ⟨_, z⟩
      · cases z
      · exact .inr (.inl ⟨j, z⟩)
    · exact .inr (.inr h)
  have st : Step H (Bn R Ls F) H (Bn R (updL Ls i []) F) F := ⟨fun _ _ e _ => e, fun _ _ => rfl, fun a h => .inl (hb a h)⟩
  have r0 : Rep R H (Bn R (updL Ls i []) F) 0 d v [] := Rep.frz n d v (Ls i) (fun a h => ⟨.inl (hb a h), fun z => by
    rcases h with h | ⟨j, h⟩ | h
    · exact g.fr i a z h
    · rcases updL_mem h with ⟨_, y⟩ | ⟨hj, y⟩
      · cases y
      · exact g.dis i j (Ne.symm hj) a z y
    · exact (g.ra a h).2 i z⟩) r
  have hil : i < e.length := (List.getElem?_eq_some_iff.mp hi).1
  refine ⟨v, e1, ⟨by simpa using g.len, fun j m d' h => ?_, fun j => ?_, fun j k hjk a ha hb' => ?_, fun j a ha hF => ?_, g.fd, fun a h => g.has a (hb a h), g.rnd, fun a h => ?_⟩, st, r0⟩
  · by_cases hj : j = i
    · subst hj
      rw [List.getElem?_set_self hil] at h
      cases h
      exact ⟨v, e1, by rw [updL_same]; exact r0⟩
    · rw [List.getElem?_set_ne (Ne.symm hj)] at h
      obtain ⟨v', e2, r'⟩ := g.rep j m d' h
      exact ⟨v', e2, by rw [updL_ne hj]; exact r'.by st fun _ _ => rfl⟩
  · by_cases hj : j = i
    · subst hj; rw [updL_same]; exact List.nodup_nil
    · rw [updL_ne hj]; exact g.nd j
  · rcases updL_mem ha with ⟨rfl, z⟩ | ⟨h1, z⟩ <;> rcases updL_mem hb' with ⟨rfl, y⟩ | ⟨h2, y⟩
    · exact hjk rfl
    · cases z
    · cases y
    · exact g.dis j k hjk a z y
  · rcases updL_mem ha with ⟨rfl, z⟩ | ⟨h1, z⟩
    · cases z
    · exact g.fr j a z hF
  · obtain ⟨h1, h2⟩ := g.ra a h
    refine ⟨h1, fun j z => ?_⟩
    rcases updL_mem z with ⟨_, y⟩ | ⟨_, y⟩
    · cases y
    · exact h2 j y
/-- a part of what is held apart is let go -/
theorem Good.drop {F' : List Addr} (g : Good R σ e H Ls F) (hs : ∀ a ∈ F', a ∈ F) (hd : F'.Nodup) : Good R σ e H Ls F' ∧ Step H (Bn R Ls F) H (Bn R Ls F') F' := by
  have hb : ∀ a, Bn R Ls F' a → Bn R Ls F a := fun a h => h.imp (hs a) id
  have st : Step H (Bn R Ls F) H (Bn R Ls F') F' := ⟨fun _ _ e _ => e, fun _ _ => rfl, fun a h => .inl (hb a h)⟩
  refine ⟨⟨g.len, fun i n d h => ?_, g.nd, g.dis, fun i a ha z => g.fr i a ha (hs a z), hd, fun a h => g.has a (hb a h), g.rnd, fun a h => ⟨fun z => (g.ra a h).1 (hs a z), (g.ra a h).2⟩⟩, st⟩
  obtain ⟨v, e1, r⟩ := g.rep i n d h
  exact ⟨v, e1, r.by st fun _ _ => rfl⟩
/-- the heap goes on -/
theorem Good.step {H' : Hp} {Lt : List Addr} (g : Good R σ e H Ls F) (s : Step H (Bn R Ls F) H' (Bn R Ls (Lt ++ F)) F) (hL : ∀ i, ∀ a ∈ Ls i, H' a = H a) (hr : RndOk H' R) (hd : Lt.Nodup) (hn : ∀ a ∈ Lt, H a = none ∧ ∃ o, H' a = some o)
    (hra : ∀ a, RnA R a → ∃ o, H' a = some o) : Good R σ e H' Ls (Lt ++ F) := by
  have nF : ∀ a ∈ Lt, ¬ Bn R Ls F a := fun a h z => by
    obtain ⟨xs, q⟩ := g.has a z
    rw [(hn a h).1] at q
    cases q
  refine ⟨g.len, fun i n d h => ?_, g.nd, g.dis, fun i a ha z => ?_, List.nodup_append.mpr ⟨hd, g.fd, fun a ha b hb e => nF a ha (.inl (by rw [e]; exact hb))⟩, fun a h => ?_, hr, fun a h => ⟨fun z => ?_, (g.ra a h).2⟩⟩
  · obtain ⟨v, e1, r⟩ := g.rep i n d h
    exact ⟨v, e1, r.by s (hL i)⟩
  · rcases List.mem_append.mp z with z | z
    · exact nF a z (.inr (.inl ⟨i, ha⟩))
    · exact g.fr i a ha z
  · rcases h with h | ⟨i, h⟩ | h
    · rcases List.mem_append.mp h with h | h
      · exact (hn a h).2
      · obtain ⟨xs, q⟩ := g.has a (.inl h)
        exact ⟨xs, (s.frm a h).trans q⟩
    · obtain ⟨xs, q⟩ := g.has a (.inr (.inl ⟨i, h⟩))
      exact ⟨xs, (hL i a h).trans q⟩
    · exact hra a h
  · rcases List.mem_append.mp z with z | z
    · exact nF a z (.inr (.inr h))
    · exact (g.ra a h).1 z
/-- a new list, owned -/
theorem Good.newL {a : Addr} {xs : List V} (g : Good R σ e H Ls F) (hn : H a = none) : Good R σ e (upd H a (.lst xs)) Ls ([a] ++ F) ∧ Step H (Bn R Ls F) (upd H a (.lst xs)) (Bn R Ls ([a] ++ F)) F := by
  have ne : ∀ b, Bn R Ls F b → b ≠ a := fun b h z => by
    obtain ⟨ys, q⟩ := g.has b h
    rw [z, hn] at q
    cases q
  have st : Step H (Bn R Ls F) (upd H a (.lst xs)) (Bn R Ls ([a] ++ F)) F := by
    refine ⟨fun b o e _ => ?_, fun b h => upd_ne (ne b (.inl h)), fun b h => ?_⟩
    · rw [upd_ne fun z => by rw [z, hn] at e; cases e]; exact e
    · rcases h with h | h
      · rcases List.mem_append.mp h with h | h
        · rw [List.mem_singleton.mp h]; exact .inr hn
        · exact .inl (.inl h)
      · exact .inl (.inr h)
  refine ⟨g.step st (fun i b h => upd_ne (ne b (.inr (.inl ⟨i, h⟩)))) ?_ (by simp) (fun b h => ?_) (fun b h => ?_), st⟩
  · have h := g.rnd
    unfold RndOk at h ⊢
    cases hR : R.r with
    | none => trivial
    | some r =>
      rw [hR] at h
      obtain ⟨i, m, cs, tl, h1, h2, h3, h4⟩ := h
      exact ⟨i, m, cs, tl, h1, by rw [upd_ne (ne _ (.inr (.inr ⟨r, hR, .inl rfl⟩)))]; exact h2, by rw [upd_ne (ne _ (.inr (.inr ⟨r, hR, .inr rfl⟩)))]; exact h3, h4⟩
  · rw [List.mem_singleton.mp h]; exact ⟨hn, _, upd_same⟩
  · obtain ⟨ys, q⟩ := g.has b (.inr (.inr h))
    exact ⟨ys, by rw [upd_ne (ne b (.inr (.inr h)))]; exact q⟩
/-- a new tuple, or any new thing that nobody owns -/
theorem Good.newT {a : Addr} {o : HO} (g : Good R σ e H Ls F) (hn : H a = none) : Good R σ e (upd H a o) Ls F ∧ Step H (Bn R Ls F) (upd H a o) (Bn R Ls F) F := by
  have ne : ∀ b, Bn R Ls F b → b ≠ a := fun b h z => by
    obtain ⟨ys, q⟩ := g.has b h
    rw [z, hn] at q
    cases q
  have st : Step H (Bn R Ls F) (upd H a o) (Bn R Ls F) F := by
    refine ⟨fun b o e _ => ?_, fun b h => upd_ne (ne b (.inl h)), fun b h => .inl h⟩
    rw [upd_ne fun z => by rw [z, hn] at e; cases e]; exact e
  refine ⟨g.step (Lt := []) st (fun i b h => upd_ne (ne b (.inr (.inl ⟨i, h⟩)))) ?_ (by simp) (fun b h => nomatch h) (fun b h => ?_), st⟩
  · have h := g.rnd
    unfold RndOk at h ⊢
    cases hR : R.r with
    | none => trivial
    | some r =>
      rw [hR] at h
      obtain ⟨i, m, cs, tl, h1, h2, h3, h4⟩ := h
      exact ⟨i, m, cs, tl, h1, by rw [upd_ne (ne _ (.inr (.inr ⟨r, hR, .inl rfl⟩)))]; exact h2, by rw [upd_ne (ne _ (.inr (.inr ⟨r, hR, .inr rfl⟩)))]; exact h3, h4⟩
  · obtain ⟨ys, q⟩ := g.has b (.inr (.inr h))
    exact ⟨ys, by rw [upd_ne (ne b (.inr (.inr h)))]; exact q⟩
end
end G

/-! G.Place: places read, places given away; what an operation is to reach. -/
namespace G
open PySem L2
section
variable {R : Rn} {W : WD} {σ : St} {e : Env} {H : Hp} {Ls : Nat → List Addr} {F : List Addr}

/-- slots that hold something still do -/
def Kp (e e' : Env) : Prop := ∀ (i : Nat) (r : Nat × D), e[i]? = some (some r) → ∃ r' : Nat × D, e'[i]? = some (some r')
theorem getE_ok {i : Nat} {r : Nat × D} (h : e[i]? = some (some r)) : getE i e = .ret (.ok r e) := by simp [getE, h]
theorem getE_all {i : Nat} {P : Rs (Nat × D) → Prop} (h : (getE i e).All P) (hn : ¬ P .no) : ∃ r, e[i]? = some (some r) ∧ P (.ok r e) := by
  unfold getE at h
  split at h
  · rename_i r hr; exact ⟨r, hr, h⟩
  · exact absurd h hn
theorem setE_all {i : Nat} {r : Nat × D} {P : Rs Unit → Prop} (h : (setE i r e).All P) (hn : ¬ P .no) : i < e.length ∧ P (.ok () (e.set i (some r))) := by
  unfold setE at h
  split at h
  · rename_i hi; exact ⟨hi, h⟩
  · exact absurd h hn
theorem frzE_ok {i n : Nat} {d : D} (h : e[i]? = some (some (n, d))) : frzE i e = .ret (.ok (0, d) (e.set i (some (0, d)))) := by
  have hi : i < e.length := (List.getElem?_eq_some_iff.mp h).1
  have h1 : getE i e = .ret (.ok (n, d) e) := getE_ok h
  show (getE i e).bind (mk fun r => mb (setE i (0, r.2)) fun _ => pu (0, r.2)) = _
  rw [h1]
  show (setE i (0, d) e).bind (mk fun _ => pu (0, d)) = _
  unfold setE
  rw [if_pos hi]
  rfl

theorem PRep.by {H' : Hp} {B B' : Addr → Prop} {F' : List Addr} (s : Step H B H' B' F') {p : Pl} {v : V} {L : List Addr} (hL : ∀ a ∈ L, H' a = H a) (h : PRep R H B σ p v L) : PRep R H' B' σ p v L := by
  cases p with
  | t n d => exact Rep.by s hL h
  | v i => exact h
theorem PReps.by {H' : Hp} {B B' : Addr → Prop} {F' : List Addr} (s : Step H B H' B' F') : ∀ {ps : List Pl} {vs : List V} {L : List Addr}, (∀ a ∈ L, H' a = H a) → PReps R H B σ ps vs L → PReps R H' B' σ ps vs L
  | [], _, _, _, h => h
  | p :: r, _, _, hL, h => by
    obtain ⟨v, vs', L1, L2, rfl, rfl, h1, h2⟩ := h
    exact ⟨v, vs', L1, L2, rfl, rfl, h1.by s fun a z => hL a (List.mem_append_left _ z), PReps.by s (fun a z => hL a (List.mem_append_right _ z)) h2⟩
theorem some_set {i j : Nat} {r x : Nat × D} (h : e[j]? = some (some r)) : ∃ r', (e.set i (some x))[j]? = some (some r') := by
  by_cases hj : j = i
  · subst hj
    exact ⟨x, List.getElem?_set_self (List.getElem?_eq_some_iff.mp h).1⟩
  · exact ⟨r, by rw [List.getElem?_set_ne (Ne.symm hj)]; exact h⟩
/-- the list of what is held apart, in another order -/
theorem Good.perm {F' : List Addr} (g : Good R σ e H Ls F) (p : F.Perm F') : Good R σ e H Ls F' ∧ ∀ a, Bn R Ls F' a ↔ Bn R Ls F a := by
  have hb : ∀ a, Bn R Ls F' a ↔ Bn R Ls F a := fun a => by unfold Bn; rw [p.mem_iff]
  refine ⟨⟨g.len, fun i n d h => ?_, g.nd, g.dis, fun i a ha z => g.fr i a ha (p.mem_iff.mpr z), (p.nodup_iff).mp g.fd, fun a h => g.has a ((hb a).mp h), g.rnd, fun a h => ⟨fun z => (g.ra a h).1 (p.mem_iff.mpr z), (g.ra a h).2⟩⟩, hb⟩
  obtain ⟨v, e1, r⟩ := g.rep i n d h
  exact ⟨v, e1, Rep.step (fun _ _ e _ => e) (fun a z => .inl ((hb a).mp z)) n d v _ (fun _ _ => rfl) r⟩

theorem vlP_all {p : Pl} {v : V} {L1 : List Addr} {P : Rs (Nat × D) → Prop} (g : Good R σ e H Ls (L1 ++ F)) (pr : PRep R H (Bn R Ls (L1 ++ F)) σ p v L1) (h : (vlP p e).All P) (hn : ¬ P .no) :
    ∃ r e' Ls', P (.ok r e') ∧ Good R σ e' H Ls' F ∧ Step H (Bn R Ls (L1 ++ F)) H (Bn R Ls' F) F ∧ Rep R H (Bn R Ls' F) 0 r.2 v [] := by
  cases p with
  | t n d =>
    have fd := List.nodup_append.mp g.fd
    obtain ⟨g', st⟩ := g.drop (F' := F) (fun a z => List.mem_append_right _ z) fd.2.1
    refine ⟨(n, d), e, Ls, h, g', st, Rep.frz n d v L1 (fun a z => ⟨st.bn a z, fun y => ?_⟩) pr⟩
    rcases z with z | ⟨i, z⟩ | z
    · exact fd.2.2 a y a z rfl
    · exact g.fr i a z (List.mem_append_left _ y)
    · exact (g.ra a z).1 (List.mem_append_left _ y)
  | v i =>
    obtain ⟨h1, h2⟩ := pr
    subst h1
    have h' : (frzE i e).All P := h
    obtain ⟨⟨n, d⟩, h3, _⟩ := getE_all (all_mb.mp h') hn
    obtain ⟨v', e1, g', st, rp⟩ := Good.give (F := F) g h3
    rw [h2] at e1; cases e1
    rw [frzE_ok h3] at h'
    exact ⟨(0, d), _, _, h', g', st, rp⟩
theorem vlPs_all : ∀ {ps : List Pl} {vs : List V} {Lt : List Addr} {e : Env} {Ls : Nat → List Addr} {P : Rs (List (Nat × D)) → Prop}, Good R σ e H Ls (Lt ++ F) → PReps R H (Bn R Ls (Lt ++ F)) σ ps vs Lt → (vlPs ps e).All P → ¬ P .no →
    ∃ l e' Ls', P (.ok l e') ∧ Good R σ e' H Ls' F ∧ Step H (Bn R Ls (Lt ++ F)) H (Bn R Ls' F) F ∧ Reps R H (Bn R Ls' F) 0 (l.map (·.2)) vs []
  | [], vs, Lt, e, Ls, P, g, pr, h, hn => by
    obtain ⟨rfl, rfl⟩ := pr
    exact ⟨[], e, Ls, h, g, .refl, by simp [Reps]⟩
  | p :: ps, vs, Lt, e, Ls, P, g, pr, h, hn => by
    obtain ⟨v, vs', L1, L2, rfl, rfl, h1, h2⟩ := pr
    rw [List.append_assoc] at g h1 h2
    have h' : (mb (vlP p) (fun a => mb (vlPs ps) fun l => pu (a :: l)) e).All P := h
    obtain ⟨r, e1, Ls1, q1, g1, s1, r1⟩ := vlP_all (F := L2 ++ F) g h1 (all_mb.mp h') hn
    have h3 : (mb (vlPs ps) (fun l => pu (r :: l)) e1).All P := q1
    obtain ⟨l, e2, Ls2, q2, g2, s2, r2⟩ := vlPs_all g1 (PReps.by s1 (fun _ _ => rfl) h2) (all_mb.mp h3) hn
    refine ⟨r :: l, e2, Ls2, q2, g2, ?_, ?_⟩
    · rw [List.append_assoc]
      exact ⟨fun _ _ e _ => e, fun _ _ => rfl, fun a z => by
        rcases s2.bn a z with z | z
        · exact s1.bn a z
        · exact .inr z⟩
    · simp only [List.map_cons, Reps]
      exact ⟨v, vs', [], [], rfl, rfl, r1.by s2 (fun _ _ => rfl), r2⟩
/-- what is read: data and values, whoever owns them -/
def RReps (R : Rn) (H : Hp) (B : Addr → Prop) : List (Nat × D) → List V → Prop
  | [], vs => vs = []
  | r :: t, vs => ∃ v vs' L, vs = v :: vs' ∧ Rep R H B r.1 r.2 v L ∧ RReps R H B t vs'
theorem rdP_all {p : Pl} {v : V} {L1 : List Addr} {P : Rs (Nat × D) → Prop} (g : Good R σ e H Ls F) (pr : PRep R H (Bn R Ls F) σ p v L1) (h : (rdP p e).All P) (hn : ¬ P .no) : ∃ r L, P (.ok r e) ∧ Rep R H (Bn R Ls F) r.1 r.2 v L := by
  cases p with
  | t n d => exact ⟨(n, d), L1, h, pr⟩
  | v i =>
    obtain ⟨h1, h2⟩ := pr
    obtain ⟨⟨n, d⟩, h3, h4⟩ := getE_all h hn
    obtain ⟨v', e1, r⟩ := g.rep i n d h3
    rw [h2] at e1; cases e1
    exact ⟨(n, d), _, h4, r⟩
theorem rdPs_all (g : Good R σ e H Ls F) : ∀ {ps : List Pl} {vs : List V} {Lt : List Addr} {P : Rs (List (Nat × D)) → Prop}, PReps R H (Bn R Ls F) σ ps vs Lt → (rdPs ps e).All P → ¬ P .no → ∃ l, P (.ok l e) ∧ RReps R H (Bn R Ls F) l vs
  | [], vs, Lt, P, pr, h, hn => ⟨[], h, pr.1⟩
  | p :: ps, vs, Lt, P, pr, h, hn => by
    obtain ⟨v, vs', L1, L2, rfl, rfl, h1, h2⟩ := pr
    have h' : (mb (rdP p) (fun a => mb (rdPs ps) fun l => pu (a :: l)) e).All P := h
    obtain ⟨r, L, q1, r1⟩ := rdP_all g h1 (all_mb.mp h') hn
    have h3 : (mb (rdPs ps) (fun l => pu (r :: l)) e).All P := q1
    obtain ⟨l, q2, r2⟩ := rdPs_all g h2 (all_mb.mp h3) hn
    exact ⟨r :: l, q2, v, vs', L, rfl, r1, r2⟩

/-- what an operation's answer is to reach -/
def QK (R : Rn) (σ : St) (e : Env) (H : Hp) (Ls : Nat → List Addr) (F : List Addr) (n : Nat) (d : D) (Q : VK) : Prop :=
  ∀ v' H' Lt', Step H (Bn R Ls F) H' (Bn R Ls (Lt' ++ F)) F → Good R σ e H' Ls (Lt' ++ F) → Rep R H' (Bn R Ls (Lt' ++ F)) n d v' Lt' → Q v' H'
theorem QK.val {n : Nat} {d : D} {v : V} {Q : VK} (k : QK R σ e H Ls F n d Q) (g : Good R σ e H Ls F) (h : Rep R H (Bn R Ls F) n d v []) : Q v H := k v H [] .refl g h
theorem QK.int {n : Nat} {i : Int} {Q : VK} (k : QK R σ e H Ls F n (.int i) Q) (g : Good R σ e H Ls F) : Q (.int i) H := k.val g (by simp [Rep])
theorem QK.bl {n : Nat} {i : Bool} {Q : VK} (k : QK R σ e H Ls F n (.bl i) Q) (g : Good R σ e H Ls F) : Q (.bl i) H := k.val g (by simp [Rep])
theorem QK.str {n : Nat} {i : Str} {Q : VK} (k : QK R σ e H Ls F n (.str i) Q) (g : Good R σ e H Ls F) : Q (.str i) H := k.val g (by simp [Rep])
theorem QK.newL {ds : List D} {xs : List V} {Q : VK} (k : QK R σ e H Ls F 1 (.lst ds) Q) (g : Good R σ e H Ls F) (h : Reps R H (Bn R Ls F) 0 ds xs []) : ∀ p, H p = none → Q (.ref p) (upd H p (.lst xs)) := fun p hp => by
  obtain ⟨g', s⟩ := g.newL (xs := xs) hp
  refine k _ _ [p] s g' ?_
  simp only [Rep]
  exact ⟨p, xs, [], rfl, upd_same, rfl, h.by s fun _ z => nomatch z⟩
theorem QK.newT {n : Nat} {ds : List D} {xs : List V} {Q : VK} (k : QK R σ e H Ls F n (.tup ds) Q) (g : Good R σ e H Ls F) (h : Reps R H (Bn R Ls F) n ds xs []) : ∀ p, H p = none → Q (.ref p) (upd H p (.tup xs)) := fun p hp => by
  obtain ⟨g', s⟩ := g.newT (o := .tup xs) hp
  refine k _ _ [] s g' ?_
  simp only [Rep]
  exact ⟨p, xs, rfl, upd_same, (fun z => (by obtain ⟨ys, q⟩ := g.has p z; rw [hp] at q; cases q)), h.by s fun _ z => nomatch z⟩
theorem Reps.up : ∀ {n : Nat} {ds : List D} {vs : List V} {L : List Addr}, D.fixs ds = true → Reps R H (Bn R Ls F) n ds vs L → ∀ m, Reps R H (Bn R Ls F) m ds vs [] := fun f h m => (Reps.fixed _ _ _ _ f h).2 m
theorem mb_op {α β : Type} {o : Option α} {f : α → M β} {P : Rs β → Prop} (h : (mb (op o) f e).All P) (hn : ¬ P .no) : ∃ a, o = some a ∧ (f a e).All P := by
  cases o with
  | none => exact absurd h hn
  | some a => exact ⟨a, rfl, h⟩
theorem tst_all {α : Type} {b : Bool} {m : M α} {P : Rs α → Prop} (h : (tst b m e).All P) (hn : ¬ P .no) : b = true ∧ (m e).All P := by
  unfold tst at h
  split at h
  · rename_i hb; exact ⟨hb, h⟩
  · exact absurd h hn
/-- an operation on places -/
theorem bop_all {sub : Nat → List Nat} {o : B} {ps : List Pl} {vs : List V} {Lt : List Addr} {β : Type} {f : Nat × D → M β} {P : Rs β → Prop} (g : Good R σ e H Ls F) (pr : PReps R H (Bn R Ls F) σ ps vs Lt) (h : (mb (bopE sub o ps) f e).All P) (hn : ¬ P .no) :
    ∃ l d, RReps R H (Bn R Ls F) l vs ∧ (∀ r ∈ l, ok1 r.1 r.2 = true) ∧ bsem sub o (l.map (·.2)) = some d ∧ (f (bopN o d, d) e).All P := by
  have h0 : (bopE sub o ps e).All fun r => (mk f r).All P := all_mb.mp h
  unfold bopE at h0
  obtain ⟨l, h1, rr⟩ := rdPs_all g pr (all_mb.mp h0) hn
  have h1 : ((tst (okN l) (mb (op (bsem sub o (l.map (·.2)))) fun d => pu (bopN o d, d))) e).All fun r => (mk f r).All P := h1
  obtain ⟨hk, h2⟩ := tst_all h1 hn
  obtain ⟨d, hd, h3⟩ := mb_op h2 hn
  exact ⟨l, d, rr, fun r hr => List.all_eq_true.mp hk r hr, hd, h3⟩
theorem bop_run {sub : Nat → List Nat} {o : B} {ps : List Pl} {vs : List V} {Lt Lt2 : List Addr} {H0 : Hp} {B0 : Addr → Prop} {Q : VK} (g : Good R σ e H Ls (Lt ++ F)) (pr : PReps R H (Bn R Ls (Lt ++ F)) σ ps vs Lt2)
    (st : Step H0 B0 H (Bn R Ls (Lt ++ F)) F) (h : (bopE sub o ps e).All (PostV R W σ H0 B0 F Q)) :
    ∃ l d, RReps R H (Bn R Ls (Lt ++ F)) l vs ∧ (∀ r ∈ l, ok1 r.1 r.2 = true) ∧ bsem sub o (l.map (·.2)) = some d ∧ QK R σ e H Ls (Lt ++ F) (bopN o d) d Q := by
  unfold bopE at h
  obtain ⟨l, h1, rr⟩ := rdPs_all g pr (all_mb.mp h) (fun z => z)
  have h1 : ((tst (okN l) (mb (op (bsem sub o (l.map (·.2)))) fun d => pu (bopN o d, d))) e).All (PostV R W σ H0 B0 F Q) := h1
  obtain ⟨hk, h2⟩ := tst_all h1 (fun z => z)
  obtain ⟨d, hd, h3⟩ := mb_op h2 (fun z => z)
  refine ⟨l, d, rr, fun r hr => ?_, hd, fun v' H' Lt' s g' rp => ?_⟩
  · exact List.all_eq_true.mp hk r hr
  · have fd := List.nodup_append.mp g'.fd
    have fd2 := List.nodup_append.mp fd.2.1
    have sub1 : ∀ a ∈ Lt' ++ F, a ∈ Lt' ++ (Lt ++ F) := fun a z => by
      rcases List.mem_append.mp z with z | z
      · exact List.mem_append_left _ z
      · exact List.mem_append_right _ (List.mem_append_right _ z)
    have nd1 : (Lt' ++ F).Nodup := List.nodup_append.mpr ⟨fd.1, fd2.2.1, fun a ha b hb e => fd.2.2 a ha b (List.mem_append_right _ hb) e⟩
    obtain ⟨g2, s2⟩ := g'.drop sub1 nd1
    refine h3 v' H' Ls Lt' ?_ g2 (rp.by s2 fun _ _ => rfl)
    have s3 : Step H0 B0 H' (Bn R Ls (Lt' ++ (Lt ++ F))) F := st.trans s fun a z => List.mem_append_right _ z
    exact ⟨s3.ext, s3.frm, fun a z => s3.bn a (by
      rcases s2.bn a z with y | y
      · exact y
      · obtain ⟨xs, q⟩ := g2.has a z
        rw [q] at y; cases y)⟩
end
end G

set_option maxHeartbeats 1000000
/-! G.Ops1: the operations by their rules: from what the data say to what the rules ask. -/
namespace G
open PySem L2 PyProof.Rows
section
variable {R : Rn} {σ : St} {e : Env} {H : Hp} {Ls : Nat → List Addr} {F : List Addr} {B : Addr → Prop}
theorem RReps.one {l : List (Nat × D)} {vs : List V} {d : D} (h : RReps R H B l vs) (hl : l.map (·.2) = [d]) : ∃ n v L, l = [(n, d)] ∧ vs = [v] ∧ Rep R H B n d v L := by
  match l, hl with
  | [(n, d')], hl =>
    have : d' = d := by simpa using hl
    subst this
    obtain ⟨v, vs', L, rfl, r, h⟩ := h
    cases (show vs' = [] from h)
    exact ⟨n, v, L, rfl, rfl, r⟩
theorem RReps.two {l : List (Nat × D)} {vs : List V} {d1 d2 : D} (h : RReps R H B l vs) (hl : l.map (·.2) = [d1, d2]) : ∃ n1 n2 v1 v2 L1 L2, l = [(n1, d1), (n2, d2)] ∧ vs = [v1, v2] ∧ Rep R H B n1 d1 v1 L1 ∧ Rep R H B n2 d2 v2 L2 := by
  match l, hl with
  | [(n1, e1), (n2, e2)], hl =>
    have h1 : e1 = d1 ∧ e2 = d2 := by simpa using hl
    obtain ⟨rfl, rfl⟩ := h1
    obtain ⟨v, vs', L, rfl, r, v2, vs2, L2, rfl, r2, h⟩ := h
    cases (show vs2 = [] from h)
    exact ⟨n1, n2, v, v2, L, L2, rfl, rfl, r, r2⟩
theorem RReps.three {l : List (Nat × D)} {vs : List V} {d1 d2 d3 : D} (h : RReps R H B l vs) (hl : l.map (·.2) = [d1, d2, d3]) :
    ∃ n1 n2 n3 v1 v2 v3 L1 L2 L3, l = [(n1, d1), (n2, d2), (n3, d3)] ∧ vs = [v1, v2, v3] ∧ Rep R H B n1 d1 v1 L1 ∧ Rep R H B n2 d2 v2 L2 ∧ Rep R H B n3 d3 v3 L3 := by
  match l, hl with
  | [(n1, e1), (n2, e2), (n3, e3)], hl =>
    have h1 : e1 = d1 ∧ e2 = d2 ∧ e3 = d3 := by simpa using hl
    obtain ⟨rfl, rfl, rfl⟩ := h1
    obtain ⟨v, vs', L, rfl, r, v2, vs2, L2, rfl, r2, v3, vs3, L3, rfl, r3, h⟩ := h
    cases (show vs3 = [] from h)
    exact ⟨n1, n2, n3, v, v2, v3, L, L2, L3, rfl, rfl, r, r2, r3⟩
theorem b1_some {f : D → Option D} {ds : List D} {d : D} (h : b1 f ds = some d) : ∃ a, ds = [a] ∧ f a = some d := by
  match ds, h with
  | [a], h => exact ⟨a, rfl, h⟩
theorem b2_some {f : D → D → Option D} {ds : List D} {d : D} (h : b2 f ds = some d) : ∃ a b, ds = [a, b] ∧ f a b = some d := by
  match ds, h with
  | [a, b], h => exact ⟨a, b, rfl, h⟩
theorem bII_some {f : Int → Int → Option D} {ds : List D} {d : D} (h : bII f ds = some d) : ∃ a b, ds = [.int a, .int b] ∧ f a b = some d := by
  match ds, h with
  | [.int a, .int b], h => exact ⟨a, b, rfl, h⟩
theorem Rep.int {n : Nat} {i : Int} {v : V} {L : List Addr} (h : Rep R H B n (.int i) v L) : v = .int i := by simp only [Rep] at h; exact h.1
theorem Rep.bl {n : Nat} {i : Bool} {v : V} {L : List Addr} (h : Rep R H B n (.bl i) v L) : v = .bl i := by simp only [Rep] at h; exact h.1
theorem Rep.str {n : Nat} {i : Str} {v : V} {L : List Addr} (h : Rep R H B n (.str i) v L) : v = .str i := by simp only [Rep] at h; exact h.1
/-- a list that is read -/
theorem Rep.lst {n : Nat} {l : List D} {v : V} {L : List Addr} (h : Rep R H B n (.lst l) v L) (hk : ok1 n (.lst l) = true) : ∃ a xs, v = .ref a ∧ H a = some (.lst xs) ∧ Reps R H B 0 l xs [] := by
  match n, hk with
  | 0, _ =>
    simp only [Rep] at h
    obtain ⟨a, xs, rfl, e, nb, rfl, hr⟩ := h
    exact ⟨a, xs, rfl, e, hr⟩
  | 1, _ =>
    simp only [Rep] at h
    obtain ⟨a, xs, L', rfl, e, rfl, hr⟩ := h
    have z := Reps.zero l xs L' hr
    subst z
    exact ⟨a, xs, rfl, e, hr⟩
theorem Rep.tup {n : Nat} {l : List D} {v : V} {L : List Addr} (h : Rep R H B n (.tup l) v L) (hk : ok1 n (.tup l) = true) : ∃ a xs, v = .ref a ∧ H a = some (.tup xs) ∧ ¬ B a ∧ Reps R H B 0 l xs [] := by
  match n, hk with
  | 0, _ =>
    simp only [Rep] at h
    obtain ⟨a, xs, rfl, e, nb, hr⟩ := h
    have z := Reps.zero l xs L hr
    subst z
    exact ⟨a, xs, rfl, e, nb, hr⟩
  | 1, hk => exact absurd hk (by simp [ok1])
  | n + 2, hk => exact absurd hk (by simp [ok1])
theorem Reps.app : ∀ {n : Nat} {a b : List D} {xs ys : List V}, Reps R H B n a xs [] → Reps R H B n b ys [] → Reps R H B n (a ++ b) (xs ++ ys) []
  | n, [], b, xs, ys, h, k => by
    simp only [Reps] at h
    rw [h.1]
    exact k
  | n, d :: a, b, xs, ys, h, k => by
    simp only [Reps] at h
    obtain ⟨v, vs', L1, L2, rfl, e, h1, h2⟩ := h
    obtain ⟨rfl, rfl⟩ : L1 = [] ∧ L2 = [] := by simpa using e.symm
    simp only [List.cons_append, Reps]
    exact ⟨v, _, [], [], rfl, rfl, h1, Reps.app h2 k⟩
theorem Reps.nil {n : Nat} : Reps R H B n [] [] [] := by simp [Reps]
theorem Reps.cons {n : Nat} {d : D} {r : List D} {v : V} {vs : List V} (h : Rep R H B n d v []) (t : Reps R H B n r vs []) : Reps R H B n (d :: r) (v :: vs) [] := by
  simp only [Reps]
  exact ⟨v, vs, [], [], rfl, rfl, h, t⟩
theorem Reps.uncons {n : Nat} {d : D} {r : List D} {xs : List V} (h : Reps R H B n (d :: r) xs []) : ∃ v vs, xs = v :: vs ∧ Rep R H B n d v [] ∧ Reps R H B n r vs [] := by
  simp only [Reps] at h
  obtain ⟨v, vs', L1, L2, rfl, e, h1, h2⟩ := h
  obtain ⟨rfl, rfl⟩ : L1 = [] ∧ L2 = [] := by simpa using e.symm
  exact ⟨v, vs', rfl, h1, h2⟩
theorem Reps.get : ∀ {n : Nat} {ds : List D} {xs : List V} {i : Nat} {d : D}, Reps R H B n ds xs [] → ds[i]? = some d → ∃ v, xs[i]? = some v ∧ Rep R H B n d v []
  | n, [], xs, i, d, h, e => by simp at e
  | n, d' :: r, xs, 0, d, h, e => by
    obtain ⟨v, vs, rfl, h1, h2⟩ := h.uncons
    simp at e
    subst e
    exact ⟨v, rfl, h1⟩
  | n, d' :: r, xs, i + 1, d, h, e => by
    obtain ⟨v, vs, rfl, h1, h2⟩ := h.uncons
    obtain ⟨w, e1, e2⟩ := Reps.get h2 (show r[i]? = some d by simpa using e)
    exact ⟨w, by simpa using e1, e2⟩
theorem Reps.drop : ∀ {n : Nat} {ds : List D} {xs : List V} (k : Nat), Reps R H B n ds xs [] → Reps R H B n (ds.drop k) (xs.drop k) []
  | n, ds, xs, 0, h => h
  | n, [], xs, k + 1, h => by
    simp only [Reps] at h
    rw [h.1]
    simp [Reps]
  | n, d' :: r, xs, k + 1, h => by
    obtain ⟨v, vs, rfl, h1, h2⟩ := h.uncons
    exact Reps.drop k h2
theorem Reps.take : ∀ {n : Nat} {ds : List D} {xs : List V} (k : Nat), Reps R H B n ds xs [] → Reps R H B n (ds.take k) (xs.take k) []
  | n, ds, xs, 0, h => by simp [Reps]
  | n, [], xs, k + 1, h => by
    simp only [Reps] at h
    rw [h.1]
    simp [Reps]
  | n, d' :: r, xs, k + 1, h => by
    obtain ⟨v, vs, rfl, h1, h2⟩ := h.uncons
    exact Reps.cons h1 (Reps.take k h2)
theorem Reps.rev : ∀ {n : Nat} {ds : List D} {xs : List V}, Reps R H B n ds xs [] → Reps R H B n ds.reverse xs.reverse []
  | n, [], xs, h => by
    simp only [Reps] at h
    rw [h.1]
    simp [Reps]
  | n, d' :: r, xs, h => by
    obtain ⟨v, vs, rfl, h1, h2⟩ := h.uncons
    rw [List.reverse_cons, List.reverse_cons]
    exact Reps.app (Reps.rev h2) (Reps.cons h1 .nil)
theorem Reps.nil_iff {n : Nat} {ds : List D} {xs : List V} (h : Reps R H B n ds xs []) : ds = [] ↔ xs = [] := by
  have := h.length
  constructor
  · rintro rfl; exact List.eq_nil_of_length_eq_zero (by simpa using this)
  · rintro rfl; exact List.eq_nil_of_length_eq_zero (by simpa using this.symm)
theorem Rep.tup0 {n : Nat} {l : List D} {a : Addr} {xs : List V} (e : H a = some (.tup xs)) (nb : ¬ B a) (h : Reps R H B n l xs []) : Rep R H B n (.tup l) (.ref a) [] := by
  simp only [Rep]
  exact ⟨a, xs, rfl, e, nb, h⟩
theorem Reps.ints : ∀ {n : Nat} {ds : List D} {xs : List V} {is : List Int}, Reps R H B n ds xs [] → iL ds = some is → xs = is.map V.int ∧ ds = is.map D.int
  | n, [], xs, is, h, e => by
    simp only [Reps] at h
    simp only [iL, Option.some.injEq] at e
    rw [h.1, ← e]
    exact ⟨rfl, rfl⟩
  | n, d :: r, xs, is, h, e => by
    obtain ⟨v, vs, rfl, h1, h2⟩ := h.uncons
    cases d with
    | int i =>
      simp only [iL, Option.map_eq_some_iff] at e
      obtain ⟨is', e1, rfl⟩ := e
      obtain ⟨q1, q2⟩ := Reps.ints h2 e1
      rw [h1.int, q1, q2]
      exact ⟨rfl, rfl⟩
    | _ => simp [iL] at e
theorem Reps.of_ints {n : Nat} : ∀ {is : List Int}, Reps R H B n (is.map D.int) (is.map V.int) []
  | [] => .nil
  | i :: r => .cons (by simp [Rep]) Reps.of_ints
theorem Reps.bools : ∀ {n : Nat} {ds : List D} {xs : List V} {is : List Bool}, Reps R H B n ds xs [] → bL ds = some is → xs = is.map V.bl
  | n, [], xs, is, h, e => by
    simp only [Reps] at h
    simp only [bL, Option.some.injEq] at e
    rw [h.1, ← e]
    rfl
  | n, d :: r, xs, is, h, e => by
    obtain ⟨v, vs, rfl, h1, h2⟩ := h.uncons
    cases d with
    | bl i =>
      simp only [bL, Option.map_eq_some_iff] at e
      obtain ⟨is', e1, rfl⟩ := e
      rw [h1.bl, Reps.bools h2 e1]
      rfl
    | _ => simp [bL] at e
end

/-! ### values that read as data -/
section
variable {R : Rn} {X : Cx} {pins : List (Addr × Obj)} {σ : St} {H : Hp} {s : Shared} {B : Addr → Prop}
theorem Inv.tupAt (I : Inv X pins σ H s) {a : Addr} {xs : List V} (e : H a = some (.tup xs)) : ∃ its : List Value, Vals xs its ∧ IsTup s.heap a its.toArray ∧ xs.length ≤ sizeLine := by
  obtain ⟨z, its, r, p⟩ := I.hok a _ e
  exact ⟨its, r, p, z⟩
mutual
theorem Rep.reads (I : Inv X pins σ H s) : ∀ (d : D) (n : Nat) (v : V) (L : List Addr) (u : Value) (p : PyData), d.py = some p → Rep R H B n d v L → RelV v u → ∃ as, Reads s.heap u p as
  | .non, n, v, L, u, p, hp, h, r => by
    simp only [D.py, Option.some.injEq] at hp
    simp only [Rep] at h
    subst hp
    rw [h.1] at r
    cases r
    exact ⟨_, .none⟩
  | .bl b, n, v, L, u, p, hp, h, r => by
    simp only [D.py, Option.some.injEq] at hp
    subst hp
    rw [h.bl] at r
    cases r
    exact ⟨_, .bool b⟩
  | .int i, n, v, L, u, p, hp, h, r => by
    simp only [D.py, Option.some.injEq] at hp
    subst hp
    rw [h.int] at r
    obtain ⟨t, rfl⟩ := r
    exact ⟨_, .int i t⟩
  | .str x, n, v, L, u, p, hp, h, r => by
    simp only [D.py, Option.some.injEq] at hp
    subst hp
    rw [h.str] at r
    obtain ⟨t, rfl⟩ := r
    exact ⟨_, .str x t⟩
  | .tup l, n, v, L, u, p, hp, h, r => by
    simp only [D.py, Option.map_eq_some_iff] at hp
    obtain ⟨ps, hps, rfl⟩ := hp
    simp only [Rep] at h
    obtain ⟨a, xs, rfl, e, nb, hr⟩ := h
    cases r
    obtain ⟨its, rv, ⟨o, ho, hc, k, hd⟩, _⟩ := Inv.tupAt I e
    obtain ⟨as, h4⟩ := Reps.reads I l n xs L its ps hps hr rv
    exact ⟨_, .tuple ho hc hd (by simpa using h4)⟩
  | .lst l, 0, v, L, u, p, hp, h, r => by
    simp only [D.py, Option.map_eq_some_iff] at hp
    obtain ⟨ps, hps, rfl⟩ := hp
    simp only [Rep] at h
    obtain ⟨a, xs, rfl, e, nb, rfl, hr⟩ := h
    cases r
    obtain ⟨_, its, k, rv, ho⟩ := I.hok a _ e
    obtain ⟨as, h4⟩ := Reps.reads I l 0 xs [] its ps hps hr rv
    exact ⟨_, .list ho rfl rfl (by simpa using h4)⟩
  | .lst l, n + 1, v, L, u, p, hp, h, r => by
    simp only [D.py, Option.map_eq_some_iff] at hp
    obtain ⟨ps, hps, rfl⟩ := hp
    simp only [Rep] at h
    obtain ⟨a, xs, L', rfl, e, rfl, hr⟩ := h
    cases r
    obtain ⟨_, its, k, rv, ho⟩ := I.hok a _ e
    obtain ⟨as, h4⟩ := Reps.reads I l n xs L' its ps hps hr rv
    exact ⟨_, .list ho rfl rfl (by simpa using h4)⟩
  | .dct l, 0, v, L, u, p, hp, h, r => by
    simp only [D.py, Option.map_eq_some_iff] at hp
    obtain ⟨ps, hps, rfl⟩ := hp
    simp only [Rep] at h
    obtain ⟨a, es, ep, rfl, e, nb, rfl, hr⟩ := h
    cases r
    obtain ⟨⟨o, des, ho, hc, hd, _, _, _, hp⟩, _⟩ := I.hok a _ e
    obtain ⟨as, bs, h1, h2⟩ := RepK.reads I l 0 es [] des.toList ps hps hr hp
    exact ⟨_, .dict ho hc.1 hd h1 h2⟩
  | .dct l, n + 1, v, L, u, p, hp, h, r => by
    simp only [D.py, Option.map_eq_some_iff] at hp
    obtain ⟨ps, hps, rfl⟩ := hp
    simp only [Rep] at h
    obtain ⟨a, es, ep, L', rfl, e, rfl, hr⟩ := h
    cases r
    obtain ⟨⟨o, des, ho, hc, hd, _, _, _, hp⟩, _⟩ := I.hok a _ e
    obtain ⟨as, bs, h1, h2⟩ := RepK.reads I l n es L' des.toList ps hps hr hp
    exact ⟨_, .dict ho hc.1 hd h1 h2⟩
  | .set _, n, v, L, u, p, hp, h, r => by simp [Rep] at h
  | .ins _ _, n, v, L, u, p, hp, h, r => by simp [Rep] at h
  | .exn _ _, n, v, L, u, p, hp, h, r => by simp [D.py] at hp
  | .clo _ _, n, v, L, u, p, hp, h, r => by simp [Rep] at h
  | .rnd, n, v, L, u, p, hp, h, r => by simp [D.py] at hp
  | .scr _, n, v, L, u, p, hp, h, r => by simp [D.py] at hp
theorem RepK.reads (I : Inv X pins σ H s) : ∀ (ds : List (D × D)) (n : Nat) (es : List (NestedKey × V × V)) (L : List Addr) (ens : List DictEntry) (ps : List (PyData × PyData)), D.pyk ds = some ps → RepK R H B n ds es L →
    Paired (fun (p : NestedKey × V × V) (en : DictEntry) => RelV p.2.1 en.key ∧ RelV p.2.2 en.val ∧ en.hash = p.1.hash R.w) es ens → ∃ as bs, ReadsAll s.heap (ens.map (·.key)) (ps.map (·.1)) as ∧ ReadsAll s.heap (ens.map (·.val)) (ps.map (·.2)) bs
  | [], n, es, L, ens, ps, hp, h, r => by
    simp only [D.pyk, Option.some.injEq] at hp
    simp only [RepK] at h
    subst hp
    rw [h.1] at r
    cases r
    exact ⟨_, _, .nil, .nil⟩
  | (k, d) :: t, n, es, L, ens, ps, hp, h, r => by
    simp only [RepK] at h
    obtain ⟨nk, kv, v, es', L1, L2, rfl, rfl, hk, h0, h1, h2⟩ := h
    simp only [D.pyk] at hp
    split at hp
    · rename_i a b c ha hb hc
      cases hp
      cases r with
      | cons r1 r2 =>
        obtain ⟨x1, q1⟩ := Rep.reads I k 0 kv [] _ a ha h0 r1.1
        obtain ⟨x2, q2⟩ := Rep.reads I d n v L1 _ b hb h1 r1.2.1
        obtain ⟨x3, x4, q3, q4⟩ := RepK.reads I t n es' L2 _ c hc h2 r2
        exact ⟨_, _, .cons q1 q3, .cons q2 q4⟩
    · cases hp
theorem Reps.reads (I : Inv X pins σ H s) : ∀ (ds : List D) (n : Nat) (vs : List V) (L : List Addr) (us : List Value) (ps : List PyData), D.pys ds = some ps → Reps R H B n ds vs L → Vals vs us → ∃ as, ReadsAll s.heap us ps as
  | [], n, vs, L, us, ps, hp, h, r => by
    simp only [D.pys, Option.some.injEq] at hp
    simp only [Reps] at h
    subst hp
    rw [h.1] at r
    cases r
    exact ⟨_, .nil⟩
  | d :: t, n, vs, L, us, ps, hp, h, r => by
    simp only [Reps] at h
    obtain ⟨v, vs', L1, L2, rfl, rfl, h1, h2⟩ := h
    simp only [D.pys] at hp
    split at hp
    · rename_i a b ha hb
      cases hp
      cases r with
      | cons r1 r2 =>
        obtain ⟨as, q1⟩ := Rep.reads I d n v L1 _ a ha h1 r1
        obtain ⟨bs, q2⟩ := Reps.reads I t n vs' L2 _ b hb h2 r2
        exact ⟨_, .cons q1 q2⟩
    · cases hp
end
end
end G

set_option maxHeartbeats 1000000
/-! G.Ops2: operators and comparisons. -/
namespace G
open PySem L2 PyProof.Rows
/-- what is known of where a body runs -/
structure Cok (X : Cx) : Prop where
  calm : X.calm = true
  un : X.A.units + 200 < cLine
  gd : X.A.guards = some []
  nd : X.N.Nodup
  own : PassesOwn (model X.prog X.w) X.A X.env X.xe
section
variable {R : Rn} {σ : St} {e : Env} {H : Hp} {Ls : Nat → List Addr} {F : List Addr} {X : Cx} {sub : Nat → List Nat}

/-- what is known at an operation -/
structure At (R : Rn) (σ : St) (e : Env) (H : Hp) (Ls : Nat → List Addr) (F : List Addr) (sub : Nat → List Nat) (o : B) (vs : List V) (Q : VK) : Prop where
  ex : ∃ l d, RReps R H (Bn R Ls F) l vs ∧ (∀ r ∈ l, ok1 r.1 r.2 = true) ∧ bsem sub o (l.map (·.2)) = some d ∧ QK R σ e H Ls F (bopN o d) d Q
  g : Good R σ e H Ls F
theorem big_ok {i : Int} (h : big i = true) : -(2 ^ 64) < i ∧ i < 2 ^ 64 := by
  have := of_decide_eq_true h
  omega
def rAddA (K : PySem.W.Frag) : R2 := fun x y H Q => rI0 (fun i j => .int (i + j)) x y H Q ∨ (∃ i j, x = .str i ∧ y = .str j ∧ i.length + j.length ≤ sizeLine ∧ Q (.str (i ++ j)) H) ∨ rCat x y H Q ∨ rCatA K x y H Q
theorem or_add : OpR X (binaryOp .Add) (rAddA X.K) := op_add.or (op_add_str.or (op_cat.or op_catA))
theorem at_add {x y : V} {Q : VK} (h : At R σ e H Ls F sub .add [x, y] Q) : rAddA X.K x y H Q := by
  obtain ⟨⟨l, d, rr, hk, hb, k⟩, g⟩ := h
  have hb : bAdd (l.map (·.2)) = some d := hb
  unfold bAdd at hb
  split at hb
  · rename_i a b hl
    cases hb
    obtain ⟨n1, n2, v1, v2, L1, L2, rfl, hv, r1, r2⟩ := rr.two hl
    cases hv
    exact .inl ⟨a, b, r1.int, r2.int, k.int g⟩
  · rename_i a b hl
    split at hb
    · rename_i hz
      cases hb
      obtain ⟨n1, n2, v1, v2, L1, L2, rfl, hv, r1, r2⟩ := rr.two hl
      cases hv
      exact .inr (.inl ⟨a, b, r1.str, r2.str, hz, k.str g⟩)
    · cases hb
  · rename_i a b hl
    split at hb
    · rename_i hz
      cases hb
      obtain ⟨n1, n2, v1, v2, L1, L2, rfl, hv, r1, r2⟩ := rr.two hl
      cases hv
      obtain ⟨p, xs, rfl, e1, q1⟩ := r1.lst (hk (n1, _) (by simp))
      obtain ⟨p', ys, rfl, e2, q2⟩ := r2.lst (hk (n2, _) (by simp))
      exact .inr (.inr (.inl ⟨p, p', xs, ys, rfl, rfl, e1, e2, by rw [q1.length, q2.length]; exact hz, k.newL g (q1.app q2)⟩))
    · cases hb
  · rename_i a b hl
    split at hb
    · rename_i hz
      cases hb
      obtain ⟨n1, n2, v1, v2, L1, L2, rfl, hv, r1, r2⟩ := rr.two hl
      cases hv
      obtain ⟨p, xs, rfl, e1, nb1, q1⟩ := r1.tup (hk (n1, _) (by simp))
      obtain ⟨p', ys, rfl, e2, nb2, q2⟩ := r2.tup (hk (n2, _) (by simp))
      have k0 : QK R σ e H Ls F 0 (.tup (a ++ b)) Q := k
      refine .inr (.inr (.inr ⟨p, p', xs, ys, rfl, rfl, .of e1, .of e2, by rw [q1.length, q2.length]; exact hz, fun z => ?_, fun z z' => ?_, fun _ _ => k0.newT g (q1.app q2)⟩))
      · have : a = [] := q1.nil_iff.mpr z
        subst this
        exact k0.val g (Rep.tup0 e2 nb2 q2)
      · have : b = [] := q2.nil_iff.mpr z'
        subst this
        rw [List.append_nil] at k0
        exact k0.val g (Rep.tup0 e1 nb1 q1)
    · cases hb
  · cases hb
/-- ints alone -/
theorem at_ii {o : B} {f : Int → Int → Option D} (ho : ∀ ds, bsem sub o ds = bII f ds) {x y : V} {Q : VK} (h : At R σ e H Ls F sub o [x, y] Q) : ∃ a b d, x = .int a ∧ y = .int b ∧ f a b = some d ∧ QK R σ e H Ls F (bopN o d) d Q ∧ Good R σ e H Ls F := by
  obtain ⟨⟨l, d, rr, hk, hb, k⟩, g⟩ := h
  rw [ho] at hb
  obtain ⟨a, b, hl, hf⟩ := bII_some hb
  obtain ⟨n1, n2, v1, v2, L1, L2, rfl, hv, r1, r2⟩ := rr.two hl
  cases hv
  exact ⟨a, b, d, r1.int, r2.int, hf, k, g⟩
theorem at_sub {x y : V} {Q : VK} (h : At R σ e H Ls F sub .sub [x, y] Q) : rI0 (fun i j => .int (i - j)) x y H Q := by
  obtain ⟨a, b, d, rfl, rfl, hf, k, g⟩ := at_ii (fun _ => rfl) h
  cases hf
  exact ⟨a, b, rfl, rfl, k.int g⟩
theorem at_fdiv {x y : V} {Q : VK} (h : At R σ e H Ls F sub .fdiv [x, y] Q) : rI CDiv (fun i j => .int (i / j)) x y H Q := by
  obtain ⟨a, b, d, rfl, rfl, hf, k, g⟩ := at_ii (fun _ => rfl) h
  split at hf
  · rename_i hc
    cases hf
    exact ⟨a, b, rfl, rfl, hc, k.int g⟩
  · cases hf
theorem at_mod {x y : V} {Q : VK} (h : At R σ e H Ls F sub .mod [x, y] Q) : rI (fun _ j => 0 < j) (fun i j => .int (i % j)) x y H Q := by
  obtain ⟨a, b, d, rfl, rfl, hf, k, g⟩ := at_ii (fun _ => rfl) h
  split at hf
  · rename_i hc
    cases hf
    exact ⟨a, b, rfl, rfl, hc, k.int g⟩
  · cases hf
theorem at_pow {x y : V} {Q : VK} (h : At R σ e H Ls F sub .pow [x, y] Q) : rI CPow (fun i j => .int (i ^ j.toNat)) x y H Q := by
  obtain ⟨a, b, d, rfl, rfl, hf, k, g⟩ := at_ii (fun _ => rfl) h
  split at hf
  · rename_i hc
    cases hf
    exact ⟨a, b, rfl, rfl, ⟨hc.1, by omega, of_decide_eq_true hc.2.2⟩, k.int g⟩
  · cases hf
def rMulA : R2 := fun x y H Q => rI CMul (fun i j => .int (i * j)) x y H Q ∨ rRep x y H Q
theorem or_mul : OpR X (binaryOp .Mult) rMulA := op_mul.or op_rep
theorem Reps.rep {B : Addr → Prop} {n : Nat} {ds : List D} {xs : List V} (h : Reps R H B n ds xs []) : ∀ m : Nat, Reps R H B n (List.replicate m ds).flatten (List.replicate m xs).flatten []
  | 0 => by simp [Reps]
  | m + 1 => by
    rw [List.replicate_succ, List.replicate_succ, List.flatten_cons, List.flatten_cons]
    exact h.app (Reps.rep h m)
theorem at_mul {x y : V} {Q : VK} (h : At R σ e H Ls F sub .mul [x, y] Q) : rMulA x y H Q := by
  obtain ⟨⟨l, d, rr, hk, hb, k⟩, g⟩ := h
  have hb : bMul (l.map (·.2)) = some d := hb
  unfold bMul at hb
  split at hb
  · rename_i a b hl
    split at hb
    · rename_i hz
      cases hb
      obtain ⟨n1, n2, v1, v2, L1, L2, rfl, hv, r1, r2⟩ := rr.two hl
      cases hv
      refine .inl ⟨a, b, r1.int, r2.int, ?_, k.int g⟩
      rcases Bool.or_eq_true_iff.mp hz with z | z
      · exact .inl (big_ok z)
      · exact .inr (big_ok z)
    · cases hb
  · rename_i a b hl
    split at hb
    · rename_i hz
      cases hb
      obtain ⟨n1, n2, v1, v2, L1, L2, rfl, hv, r1, r2⟩ := rr.two hl
      cases hv
      obtain ⟨p, xs, rfl, e1, q1⟩ := r1.lst (hk (n1, _) (by simp))
      refine .inr ⟨p, b, xs, rfl, r2.int, e1, by omega, by omega, ?_, k.newL g (q1.rep _)⟩
      have h1 : xs.length * b.toNat ≤ 1000 * 1000 := Nat.mul_le_mul (by rw [q1.length]; exact hz.2.2) (by omega)
      have h2 := sizeLine_eq
      omega
    · cases hb
  · cases hb
/-- == and != of data -/
def rEqG (neg : Bool) : R2 := fun x y H Q => ∃ (R : Rn) (B : Addr → Prop) (n1 : Nat) (d1 : D) (L1 : List Addr) (n2 : Nat) (d2 : D) (L2 : List Addr) (b : Bool), Rep R H B n1 d1 x L1 ∧ Rep R H B n2 d2 y L2 ∧ eqD d1 d2 = some b ∧ Q (.bl (if neg = true then !b else b)) H
theorem eqD_some {a b : D} {c : Bool} (h : eqD a b = some c) : ∃ x y, a.py = some x ∧ b.py = some y ∧ x.plain = true ∧ y.plain = true ∧ x.depth ≤ 64 ∧ y.depth ≤ 64 ∧ PyData.eqv x y = c := by
  unfold eqD at h
  split at h
  · rename_i x y hx hy
    split at h
    · rename_i hp
      cases h
      simp only [pl, Bool.and_eq_true, decide_eq_true_eq] at hp
      exact ⟨x, y, hx, hy, hp.1.1, hp.2.1, hp.1.2, hp.2.2, rfl⟩
    · cases h
  · cases h
theorem or_eq (C : Cok X) : OpR X (compareOp .Eq) (rEqG false) := by
  intro pins s σ H x y v u Q I rx ry h
  obtain ⟨R, B, n1, d1, L1, n2, d2, L2, b, h1, h2, hb, q⟩ := h
  obtain ⟨p1, p2, e1, e2, l1, l2, z1, z2, rfl⟩ := eqD_some hb
  obtain ⟨as, r1⟩ := Rep.reads I d1 n1 x L1 v p1 e1 h1 rx
  obtain ⟨bs, r2⟩ := Rep.reads I d2 n2 y L2 u p2 e2 h2 ry
  have hu := C.un
  exact SeqAt.eq_plain r1 r2 l1 l2 (by omega) ⟨.bl _, H, I, rfl, q⟩
theorem or_ne (C : Cok X) : OpR X (compareOp .NotEq) (rEqG true) := by
  intro pins s σ H x y v u Q I rx ry h
  obtain ⟨R, B, n1, d1, L1, n2, d2, L2, b, h1, h2, hb, q⟩ := h
  obtain ⟨p1, p2, e1, e2, l1, l2, z1, z2, rfl⟩ := eqD_some hb
  obtain ⟨as, r1⟩ := Rep.reads I d1 n1 x L1 v p1 e1 h1 rx
  obtain ⟨bs, r2⟩ := Rep.reads I d2 n2 y L2 u p2 e2 h2 ry
  have hu := C.un
  exact SeqAt.ne_plain r1 r2 l1 l2 (by omega) ⟨.bl _, H, I, rfl, q⟩
theorem at_eq {x y : V} {Q : VK} (h : At R σ e H Ls F sub .eq [x, y] Q) : rEqG false x y H Q := by
  obtain ⟨⟨l, d, rr, hk, hb, k⟩, g⟩ := h
  obtain ⟨a, b, hl, hf⟩ := b2_some (f := fun a b => (eqD a b).map .bl) hb
  obtain ⟨c, hc, rfl⟩ := Option.map_eq_some_iff.mp hf
  obtain ⟨n1, n2, v1, v2, L1, L2, rfl, hv, r1, r2⟩ := rr.two hl
  cases hv
  exact ⟨R, _, n1, a, L1, n2, b, L2, c, r1, r2, hc, k.bl g⟩
theorem at_ne {x y : V} {Q : VK} (h : At R σ e H Ls F sub .ne [x, y] Q) : rEqG true x y H Q := by
  obtain ⟨⟨l, d, rr, hk, hb, k⟩, g⟩ := h
  obtain ⟨a, b, hl, hf⟩ := b2_some (f := fun a b => (eqD a b).map fun c => D.bl (!c)) hb
  obtain ⟨c, hc, rfl⟩ := Option.map_eq_some_iff.mp hf
  obtain ⟨n1, n2, v1, v2, L1, L2, rfl, hv, r1, r2⟩ := rr.two hl
  cases hv
  exact ⟨R, _, n1, a, L1, n2, b, L2, c, r1, r2, hc, k.bl g⟩
theorem at_lt {x y : V} {Q : VK} (h : At R σ e H Ls F sub .lt [x, y] Q) : rI0 (fun i j => .bl (decide (i < j))) x y H Q := by
  obtain ⟨a, b, d, rfl, rfl, hf, k, g⟩ := at_ii (fun _ => rfl) h
  cases hf
  exact ⟨a, b, rfl, rfl, k.bl g⟩
theorem at_le {x y : V} {Q : VK} (h : At R σ e H Ls F sub .le [x, y] Q) : rI0 (fun i j => .bl (decide (i ≤ j))) x y H Q := by
  obtain ⟨a, b, d, rfl, rfl, hf, k, g⟩ := at_ii (fun _ => rfl) h
  cases hf
  exact ⟨a, b, rfl, rfl, k.bl g⟩
theorem at_gt {x y : V} {Q : VK} (h : At R σ e H Ls F sub .gt [x, y] Q) : rI0 (fun i j => .bl (decide (j < i))) x y H Q := by
  obtain ⟨a, b, d, rfl, rfl, hf, k, g⟩ := at_ii (fun _ => rfl) h
  cases hf
  exact ⟨a, b, rfl, rfl, k.bl g⟩
theorem at_ge {x y : V} {Q : VK} (h : At R σ e H Ls F sub .ge [x, y] Q) : rI0 (fun i j => .bl (decide (j ≤ i))) x y H Q := by
  obtain ⟨a, b, d, rfl, rfl, hf, k, g⟩ := at_ii (fun _ => rfl) h
  cases hf
  exact ⟨a, b, rfl, rfl, k.bl g⟩
/-- x in c, x not in c: lists and tuples of data -/
def rInG (neg : Bool) : R2 := fun x y H Q => ∃ (R : Rn) (B : Addr → Prop) (n1 : Nat) (d1 : D) (L1 : List Addr) (n2 : Nat) (d2 : D) (L2 : List Addr) (l : List D) (b : Bool), Rep R H B n1 d1 x L1 ∧ Rep R H B n2 d2 y L2 ∧ (d2 = .lst l ∨ d2 = .tup l) ∧ anyEq d1 l = some b ∧ Q (.bl (if neg = true then !b else b)) H
theorem anyEq_some {a : D} {l : List D} {c : Bool} (h : anyEq a l = some c) : ∃ x ys, a.py = some x ∧ D.pys l = some ys ∧ x.plain = true ∧ PyData.plainAll ys = true ∧ x.depth ≤ 64 ∧ PyData.depthAll ys ≤ 64 ∧ (ys.any fun y => PyData.eqv y x) = c := by
  unfold anyEq at h
  split at h
  · rename_i x y hx hy
    split at h
    · rename_i hp
      cases h
      simp only [pl, Bool.and_eq_true, decide_eq_true_eq] at hp
      refine ⟨x, y, hx, hy, hp.1.1, ?_, hp.1.2, ?_, rfl⟩
      · simpa [PyData.plain] using hp.2.1
      · have := hp.2.2
        simp only [PyData.depth] at this
        omega
    · cases h
  · cases h
theorem or_in (C : Cok X) : OpR X (compareOp .In) (rInG false) := by
  intro pins s σ H x y v u Q I rx ry h
  obtain ⟨R, B, n1, d1, L1, n2, d2, L2, l, b, h1, h2, hd, hb, q⟩ := h
  obtain ⟨p1, p2, e1, e2, l1, l2, z1, z2, rfl⟩ := anyEq_some hb
  obtain ⟨as, r1⟩ := Rep.reads I d1 n1 x L1 v p1 e1 h1 rx
  have hu := C.un
  rcases hd with rfl | rfl
  · obtain ⟨bs, r2⟩ := Rep.reads I (.lst l) n2 y L2 u (.list p2) (by simp [D.py, e2]) h2 ry
    exact SeqAt.in_list_data r2 r1 l2 l1 (by omega) ⟨.bl _, H, I, rfl, q⟩
  · obtain ⟨bs, r2⟩ := Rep.reads I (.tup l) n2 y L2 u (.tuple p2) (by simp [D.py, e2]) h2 ry
    exact SeqAt.in_tuple_data r2 r1 l2 l1 (by omega) ⟨.bl _, H, I, rfl, q⟩
theorem or_nin (C : Cok X) : OpR X (compareOp .NotIn) (rInG true) := by
  intro pins s σ H x y v u Q I rx ry h
  obtain ⟨R, B, n1, d1, L1, n2, d2, L2, l, b, h1, h2, hd, hb, q⟩ := h
  obtain ⟨p1, p2, e1, e2, l1, l2, z1, z2, rfl⟩ := anyEq_some hb
  obtain ⟨as, r1⟩ := Rep.reads I d1 n1 x L1 v p1 e1 h1 rx
  have hu := C.un
  rcases hd with rfl | rfl
  · obtain ⟨bs, r2⟩ := Rep.reads I (.lst l) n2 y L2 u (.list p2) (by simp [D.py, e2]) h2 ry
    exact SeqAt.notIn_list_data r2 r1 l2 l1 (by omega) ⟨.bl _, H, I, rfl, q⟩
  · obtain ⟨bs, r2⟩ := Rep.reads I (.tup l) n2 y L2 u (.tuple p2) (by simp [D.py, e2]) h2 ry
    exact SeqAt.notIn_tuple_data r2 r1 l2 l1 (by omega) ⟨.bl _, H, I, rfl, q⟩
theorem inD_some {x c : D} {b : Bool} (h : inD x c = some b) : ∃ l, (c = .lst l ∨ c = .tup l) ∧ anyEq x l = some b := by
  unfold inD at h
  split at h
  · exact ⟨_, .inl rfl, h⟩
  · exact ⟨_, .inr rfl, h⟩
  · cases h
theorem at_in {x y : V} {Q : VK} (h : At R σ e H Ls F sub .inn [x, y] Q) : rInG false x y H Q := by
  obtain ⟨⟨l, d, rr, hk, hb, k⟩, g⟩ := h
  obtain ⟨a, b, hl, hf⟩ := b2_some (f := fun x c => (inD x c).map .bl) hb
  obtain ⟨c, hc, rfl⟩ := Option.map_eq_some_iff.mp hf
  obtain ⟨n1, n2, v1, v2, L1, L2, rfl, hv, r1, r2⟩ := rr.two hl
  cases hv
  obtain ⟨l, hd, he⟩ := inD_some hc
  exact ⟨R, _, n1, a, L1, n2, b, L2, l, c, r1, r2, hd, he, k.bl g⟩
theorem at_nin {x y : V} {Q : VK} (h : At R σ e H Ls F sub .nin [x, y] Q) : rInG true x y H Q := by
  obtain ⟨⟨l, d, rr, hk, hb, k⟩, g⟩ := h
  obtain ⟨a, b, hl, hf⟩ := b2_some (f := fun x c => (inD x c).map fun b => D.bl (!b)) hb
  obtain ⟨c, hc, rfl⟩ := Option.map_eq_some_iff.mp hf
  obtain ⟨n1, n2, v1, v2, L1, L2, rfl, hv, r1, r2⟩ := rr.two hl
  cases hv
  obtain ⟨l, hd, he⟩ := inD_some hc
  exact ⟨R, _, n1, a, L1, n2, b, L2, l, c, r1, r2, hd, he, k.bl g⟩
end
end G

set_option maxHeartbeats 1000000
/-! G.Ops3: built-in functions by their rules. -/
namespace G
open PySem L2 PyProof.Rows
section
variable {R : Rn} {σ : St} {e : Env} {H : Hp} {Ls : Nat → List Addr} {F : List Addr} {X : Cx} {sub : Nat → List Nat}
theorem at_1 {o : B} {f : D → Option D} (ho : ∀ ds, bsem sub o ds = b1 f ds) {vs : List V} {Q : VK} (h : At R σ e H Ls F sub o vs Q) :
    ∃ n a v L d, vs = [v] ∧ Rep R H (Bn R Ls F) n a v L ∧ ok1 n a = true ∧ f a = some d ∧ QK R σ e H Ls F (bopN o d) d Q ∧ Good R σ e H Ls F := by
  obtain ⟨⟨l, d, rr, hk, hb, k⟩, g⟩ := h
  rw [ho] at hb
  obtain ⟨a, hl, hf⟩ := b1_some hb
  obtain ⟨n, v, L, rfl, rfl, r⟩ := rr.one hl
  exact ⟨n, a, v, L, d, rfl, r, hk (n, a) (by simp), hf, k, g⟩

/-! ### len -/
def rLenA (K : PySem.W.Frag) : List V → Hp → VK → Prop := fun xs H Q => (∃ p ys, xs = [.ref p] ∧ (SqL K H p ys ∨ SqT K H p ys) ∧ Q (.int ys.length) H) ∨ (∃ z, xs = [.str z] ∧ z.length ≤ sizeLine ∧ Q (.int z.length) H)
theorem cr_len : CallR X (.builtin "len") (rLenA X.K) := call_len_seq.or call_len_str
/-- .. of a dict, of a set: their own rules -/
def lenO : D → Bool
  | .dct _ => true
  | .set _ => true
  | _ => false
theorem at_len {vs : List V} {Q : VK} (h : At R σ e H Ls F sub .len vs Q) : rLenA X.K vs H Q ∨ ∃ l a es ep, vs = [.ref a] ∧ H a = some (DicO R.w a es ep) ∧ es.length = l.length ∧ Q (.int (l : List (D × D)).length) H := by
  obtain ⟨n, a, v, L, d, rfl, r, hk, hf, k, g⟩ := at_1 (fun _ => rfl) h
  unfold lenD at hf
  split at hf
  · cases hf
    obtain ⟨p, xs, rfl, e1, q1⟩ := r.lst hk
    exact .inl (.inl ⟨p, xs, rfl, .inl (.of e1), by rw [q1.length]; exact k.int g⟩)
  · cases hf
    obtain ⟨p, xs, rfl, e1, nb, q1⟩ := r.tup hk
    exact .inl (.inl ⟨p, xs, rfl, .inr (.of e1), by rw [q1.length]; exact k.int g⟩)
  · rename_i l
    cases hf
    match n, hk with
    | 0, _ =>
      simp only [Rep] at r
      obtain ⟨p, es, ep, rfl, e1, nb, rfl, hr⟩ := r
      exact .inr ⟨l, p, es, ep, rfl, e1, hr.length, k.int g⟩
    | 1, _ =>
      simp only [Rep] at r
      obtain ⟨p, es, ep, L', rfl, e1, rfl, hr⟩ := r
      exact .inr ⟨l, p, es, ep, rfl, e1, hr.length, k.int g⟩
  · simp [Rep] at r
  · rename_i l
    cases hf
    simp only [Rep] at r
    obtain ⟨rfl, p, rfl, e1, nb⟩ := r
    exact .inl (.inl ⟨p, l.map V.int, rfl, .inl (.inl e1), by rw [List.length_map]; exact k.int g⟩)
  · split at hf
    · rename_i x hz
      cases hf
      exact .inl (.inr ⟨x, by rw [r.str], hz, k.int g⟩)
    · cases hf
  · cases hf

/-! ### list, tuple -/
def rListA (K : PySem.W.Frag) : List V → Hp → VK → Prop := fun xs H Q => ∃ p ys, xs = [.ref p] ∧ (SqL K H p ys ∨ SqT K H p ys) ∧ ∀ l, H l = none → Q (.ref l) (upd H l (.lst ys))
theorem at_list {vs : List V} {Q : VK} (h : At R σ e H Ls F sub .list vs Q) : rListA X.K vs H Q ∨ ∃ l a es ep, vs = [.ref a] ∧ H a = some (DicO R.w a es ep) ∧ RepK R H (Bn R Ls F) 0 l es [] ∧ QK R σ e H Ls F 1 (.lst ((l : List (D × D)).map (·.1))) Q ∧ Good R σ e H Ls F := by
  obtain ⟨n, a, v, L, d, rfl, r, hk, hf, k, g⟩ := at_1 (fun _ => rfl) h
  unfold listD at hf
  split at hf
  · cases hf
    obtain ⟨p, xs, rfl, e1, q1⟩ := r.lst hk
    exact .inl ⟨p, xs, rfl, .inl (.of e1), k.newL g q1⟩
  · cases hf
    obtain ⟨p, xs, rfl, e1, nb, q1⟩ := r.tup hk
    exact .inl ⟨p, xs, rfl, .inr (.of e1), k.newL g q1⟩
  · rename_i l
    cases hf
    match n, hk with
    | 0, _ =>
      simp only [Rep] at r
      obtain ⟨p, es, ep, rfl, e1, nb, rfl, hr⟩ := r
      exact .inr ⟨l, p, es, ep, rfl, e1, hr, k, g⟩
    | 1, _ =>
      simp only [Rep] at r
      obtain ⟨p, es, ep, L', rfl, e1, rfl, hr⟩ := r
      have z := RepK.zero l es L' hr
      subst z
      exact .inr ⟨l, p, es, ep, rfl, e1, hr, k, g⟩
  · cases hf
def rTupA (K : PySem.W.Frag) : List V → Hp → VK → Prop := fun xs H Q => ∃ p ys, xs = [.ref p] ∧ ((SqL K H p ys ∧ ∀ l, H l = none → Q (.ref l) (upd H l (.tup ys))) ∨ (SqT K H p ys ∧ Q (.ref p) H))
theorem at_tuple {vs : List V} {Q : VK} (h : At R σ e H Ls F sub .tuple vs Q) : rTupA X.K vs H Q := by
  obtain ⟨n, a, v, L, d, rfl, r, hk, hf, k, g⟩ := at_1 (fun _ => rfl) h
  unfold tupleD at hf
  split at hf
  · cases hf
    obtain ⟨p, xs, rfl, e1, q1⟩ := r.lst hk
    have k0 : QK R σ e H Ls F 0 _ Q := k
    exact ⟨p, xs, rfl, .inl ⟨.of e1, k0.newT g q1⟩⟩
  · cases hf
    obtain ⟨p, xs, rfl, e1, nb, q1⟩ := r.tup hk
    have k0 : QK R σ e H Ls F 0 _ Q := k
    exact ⟨p, xs, rfl, .inr ⟨.of e1, k0.val g (Rep.tup0 e1 nb q1)⟩⟩
  · cases hf

/-! ### numbers -/
theorem at_abs {vs : List V} {Q : VK} (h : At R σ e H Ls F sub .abs vs Q) : ∃ i, vs = [.int i] ∧ Q (.int (if i < 0 then -i else i)) H := by
  obtain ⟨n, a, v, L, d, rfl, r, hk, hf, k, g⟩ := at_1 (fun _ => rfl) h
  unfold absD at hf
  split at hf
  · cases hf
    exact ⟨_, by rw [r.int], k.int g⟩
  · cases hf
theorem at_neg {v : V} {Q : VK} (h : At R σ e H Ls F sub .neg [v] Q) : rU (fun i => .int (-i)) v H Q := by
  obtain ⟨n, a, v', L, d, hv, r, hk, hf, k, g⟩ := at_1 (fun _ => rfl) h
  cases hv
  unfold negD at hf
  split at hf
  · cases hf
    exact ⟨_, r.int, k.int g⟩
  · cases hf
theorem at_int {vs : List V} {Q : VK} (h : At R σ e H Ls F sub .int vs Q) : (∃ i, vs = [.int i] ∧ Q (.int i) H) ∨ ∃ b, vs = [.bl b] ∧ Q (.int (if b then 1 else 0)) H := by
  obtain ⟨n, a, v, L, d, rfl, r, hk, hf, k, g⟩ := at_1 (fun _ => rfl) h
  unfold intD at hf
  split at hf
  · cases hf
    exact .inl ⟨_, by rw [r.int], k.int g⟩
  · cases hf
    exact .inr ⟨_, by rw [r.bl], k.int g⟩
  · cases hf
theorem at_iiL {o : B} {f : Int → Int → Option D} (ho : ∀ ds, bsem sub o ds = bII f ds) {vs : List V} {Q : VK} (h : At R σ e H Ls F sub o vs Q) : ∃ a b d, vs = [.int a, .int b] ∧ f a b = some d ∧ QK R σ e H Ls F (bopN o d) d Q ∧ Good R σ e H Ls F := by
  obtain ⟨⟨l, d, rr, hk, hb, k⟩, g⟩ := h
  rw [ho] at hb
  obtain ⟨a, b, hl, hf⟩ := bII_some hb
  obtain ⟨n1, n2, v1, v2, L1, L2, rfl, rfl, r1, r2⟩ := rr.two hl
  exact ⟨a, b, d, by rw [r1.int, r2.int], hf, k, g⟩
theorem at_max2 {vs : List V} {Q : VK} (h : At R σ e H Ls F sub .max2 vs Q) : ∃ i j, vs = [.int i, .int j] ∧ Q (.int (if j > i then j else i)) H := by
  obtain ⟨a, b, d, rfl, hf, k, g⟩ := at_iiL (fun _ => rfl) h
  cases hf
  exact ⟨a, b, rfl, k.int g⟩
theorem at_min2 {vs : List V} {Q : VK} (h : At R σ e H Ls F sub .min2 vs Q) : ∃ i j, vs = [.int i, .int j] ∧ Q (.int (if j < i then j else i)) H := by
  obtain ⟨a, b, d, rfl, hf, k, g⟩ := at_iiL (fun _ => rfl) h
  cases hf
  exact ⟨a, b, rfl, k.int g⟩
theorem foldl_max_ge : ∀ (r : List Int) (a : Int), a ≤ r.foldl max a ∧ (∀ y ∈ r, y ≤ r.foldl max a) ∧ (r.foldl max a = a ∨ r.foldl max a ∈ r)
  | [], a => ⟨Int.le_refl _, (fun _ z => nomatch z), .inl rfl⟩
  | x :: r, a => by
    obtain ⟨h1, h2, h3⟩ := foldl_max_ge r (max a x)
    simp only [List.foldl_cons]
    refine ⟨by omega, fun y hy => ?_, ?_⟩
    · rcases List.mem_cons.mp hy with rfl | hy
      · omega
      · exact h2 y hy
    · rcases h3 with h3 | h3
      · rw [h3]
        by_cases hx : a ≤ x
        · exact .inr (by rw [Int.max_eq_right hx]; exact List.mem_cons_self)
        · exact .inl (Int.max_eq_left (by omega))
      · exact .inr (List.mem_cons_of_mem _ h3)
theorem foldl_min_le : ∀ (r : List Int) (a : Int), r.foldl min a ≤ a ∧ (∀ y ∈ r, r.foldl min a ≤ y) ∧ (r.foldl min a = a ∨ r.foldl min a ∈ r)
  | [], a => ⟨Int.le_refl _, (fun _ z => nomatch z), .inl rfl⟩
  | x :: r, a => by
    obtain ⟨h1, h2, h3⟩ := foldl_min_le r (min a x)
    simp only [List.foldl_cons]
    refine ⟨by omega, fun y hy => ?_, ?_⟩
    · rcases List.mem_cons.mp hy with rfl | hy
      · omega
      · exact h2 y hy
    · rcases h3 with h3 | h3
      · rw [h3]
        by_cases hx : a ≤ x
        · exact .inl (Int.min_eq_left hx)
        · exact .inr (by rw [Int.min_eq_right (by omega)]; exact List.mem_cons_self)
      · exact .inr (List.mem_cons_of_mem _ h3)
theorem at_maxL {vs : List V} {Q : VK} (h : At R σ e H Ls F sub .maxL vs Q) : rMax X.K vs H Q := by
  obtain ⟨n, a, v, L, d, rfl, r, hk, hf, k, g⟩ := at_1 (fun _ => rfl) h
  unfold maxLD at hf
  split at hf
  · rename_i l
    obtain ⟨p, xs, rfl, e1, q1⟩ := r.lst hk
    split at hf
    · rename_i a r hi
      cases hf
      obtain ⟨rfl, _⟩ := q1.ints hi
      obtain ⟨h1, h2, h3⟩ := foldl_max_ge r a
      refine ⟨p, a :: r, rfl, .of e1, by simp, fun m hm hall => ?_⟩
      have : m = r.foldl max a := by
        refine Int.le_antisymm ?_ ?_
        · rcases List.mem_cons.mp hm with rfl | hm
          · exact h1
          · exact h2 m hm
        · rcases h3 with h3 | h3
          · rw [h3]; exact hall a List.mem_cons_self
          · exact hall _ (List.mem_cons_of_mem _ h3)
      rw [this]
      exact k.int g
    · cases hf
  · cases hf
theorem at_minL {vs : List V} {Q : VK} (h : At R σ e H Ls F sub .minL vs Q) : rMin X.K vs H Q := by
  obtain ⟨n, a, v, L, d, rfl, r, hk, hf, k, g⟩ := at_1 (fun _ => rfl) h
  unfold minLD at hf
  split at hf
  · rename_i l
    obtain ⟨p, xs, rfl, e1, q1⟩ := r.lst hk
    split at hf
    · rename_i a r hi
      cases hf
      obtain ⟨rfl, _⟩ := q1.ints hi
      obtain ⟨h1, h2, h3⟩ := foldl_min_le r a
      refine ⟨p, a :: r, rfl, .of e1, by simp, fun m hm hall => ?_⟩
      have : m = r.foldl min a := by
        refine Int.le_antisymm ?_ ?_
        · rcases h3 with h3 | h3
          · rw [h3]; exact hall a List.mem_cons_self
          · exact hall _ (List.mem_cons_of_mem _ h3)
        · rcases List.mem_cons.mp hm with rfl | hm
          · exact h1
          · exact h2 m hm
      rw [this]
      exact k.int g
    · cases hf
  · cases hf
theorem at_sum {vs : List V} {Q : VK} (h : At R σ e H Ls F sub .sum vs Q) : rSum X.K vs H Q := by
  obtain ⟨n, a, v, L, d, rfl, r, hk, hf, k, g⟩ := at_1 (fun _ => rfl) h
  unfold sumD at hf
  split at hf
  · rename_i l
    obtain ⟨p, xs, rfl, e1, q1⟩ := r.lst hk
    obtain ⟨is, hi, rfl⟩ := Option.map_eq_some_iff.mp hf
    obtain ⟨rfl, _⟩ := q1.ints hi
    exact ⟨p, is, rfl, .of e1, k.int g⟩
  · cases hf
theorem at_any {vs : List V} {Q : VK} (h : At R σ e H Ls F sub .any vs Q) : rAny X.K vs H Q := by
  obtain ⟨n, a, v, L, d, rfl, r, hk, hf, k, g⟩ := at_1 (fun _ => rfl) h
  unfold anyD at hf
  split at hf
  · rename_i l
    obtain ⟨p, xs, rfl, e1, q1⟩ := r.lst hk
    obtain ⟨bs, hi, rfl⟩ := Option.map_eq_some_iff.mp hf
    have z := q1.bools hi
    subst z
    exact ⟨p, bs, rfl, .of e1, k.bl g⟩
  · cases hf
theorem at_all {vs : List V} {Q : VK} (h : At R σ e H Ls F sub .all vs Q) : rAll X.K vs H Q := by
  obtain ⟨n, a, v, L, d, rfl, r, hk, hf, k, g⟩ := at_1 (fun _ => rfl) h
  unfold allD at hf
  split at hf
  · rename_i l
    obtain ⟨p, xs, rfl, e1, q1⟩ := r.lst hk
    obtain ⟨bs, hi, rfl⟩ := Option.map_eq_some_iff.mp hf
    have z := q1.bools hi
    subst z
    exact ⟨p, bs, rfl, .of e1, k.bl g⟩
  · cases hf

/-! ### repr -/
theorem isE_eq {d : D} (h : isE d = true) : d = .dct [] := by
  unfold isE at h
  split at h
  · rfl
  · cases h
theorem isE_not {d : D} {p : PyData} (hp : d.py = some p) (hn : ∀ l, p ≠ .dict l := by intro l z; cases z) : ¬ isE d = true := fun h => by
  rw [isE_eq h] at hp
  simp only [D.py, D.pyk, Option.map_some, Option.some.injEq] at hp
  exact hn _ hp.symm
theorem _root_.PySem.ReadsAll.nil_of {h : Heap} {vs : List Value} {as : List Addr} (r : ReadsAll h vs [] as) : as = [] := by
  cases r
  rfl
theorem sys_of {pins : List (Addr × Obj)} {s : Shared} {B : Addr → Prop} {n : Nat} {v : V} {L : List Addr} {a : Addr} (I : L2.Inv X pins σ H s) (h : Rep R H B n (.dct []) v L) (r : RelV v (.ref a)) : ¬ sysModules = a := by
  have z : ∃ b es ep, v = .ref b ∧ H b = some (DicO R.w b es ep) := by
    cases n with
    | zero => simp only [Rep] at h; obtain ⟨a, es, ep, rfl, e, _⟩ := h; exact ⟨a, es, ep, rfl, e⟩
    | succ n => simp only [Rep] at h; obtain ⟨a, es, ep, L', rfl, e, _⟩ := h; exact ⟨a, es, ep, rfl, e⟩
  obtain ⟨b, es, ep, rfl, e⟩ := z
  cases r
  obtain ⟨⟨o, des, h1, h2, h3, h4, _⟩, _⟩ := I.hok _ _ e
  intro z
  rw [← z] at h4
  simp at h4
def rReprG : List V → Hp → VK → Prop := fun xs H Q => ∃ (R : Rn) (B : Addr → Prop) (n : Nat) (d : D) (v : V) (L : List Addr) (p : PyData), xs = [v] ∧ Rep R H B n d v L ∧ d.py = some p ∧ p.showable = true ∧ (p.hasDict = false ∨ isE d = true) ∧ p.depth ≤ 64 ∧ p.shown.length ≤ sizeLine ∧ Q (.str p.shown) H
theorem cr_repr (C : Cok X) : CallR X (.builtin "repr") rReprG := by
  intro pins s σ H xs us Q I r h
  obtain ⟨R, B, n, d, v, L, p, rfl, hr, hp, h1, h2, h3, h4, q⟩ := h
  obtain ⟨u, rfl, ru⟩ := vals1 r
  obtain ⟨as, rd⟩ := Rep.reads I d n v L u p hp hr ru
  have hu := C.un
  cases rd with
  | none => exact PySem.P.repr_of_none ⟨.str _, H, I.tok _, ⟨_, rfl⟩, q⟩
  | bool b => exact PySem.P.repr_of_bool ⟨.str _, H, I.tok _, ⟨_, rfl⟩, q⟩
  | int i t => exact PySem.P.repr_of_int (of_decide_eq_true (by simpa [PyData.showable] using h1)) ⟨.str _, H, I.tok _, ⟨_, rfl⟩, q⟩
  | str x t => exact PySem.P.repr_of_str ⟨.str _, H, I.tok _, ⟨_, rfl⟩, q⟩
  | list e1 e2 e3 e4 => exact repr_of_reads' (.list e1 e2 e3 e4) h1 (PyData.noDict_hsm (h2.resolve_right (isE_not hp))) C.gd (by omega) (fun _ _ z => z) (fun h' u tk hk => ⟨.str _, H, I.kept hk, ⟨_, rfl⟩, q⟩) h4
  | tuple e1 e2 e3 e4 => exact repr_of_reads' (.tuple e1 e2 e3 e4) h1 (PyData.noDict_hsm (h2.resolve_right (isE_not hp))) C.gd (by omega) (fun _ _ z => z) (fun h' u tk hk => ⟨.str _, H, I.kept hk, ⟨_, rfl⟩, q⟩) h4
  | dict e1 e2 e3 e4 e5 =>
    have hd : d = .dct [] := by
      rcases h2 with h2 | h2
      · simp [PyData.hasDict] at h2
      · exact isE_eq h2
    subst hd
    simp only [D.py, D.pyk, Option.map_some, Option.some.injEq, PyData.dict.injEq] at hp
    subst hp
    have z4 : _ = _ := e4.nil_of
    have z5 := e5.nil_of
    subst z4 z5
    have hs := sys_of I hr ru
    exact repr_of_reads' (.dict e1 e2 e3 e4 e5) h1 (fun _ => by simpa using hs) C.gd (by omega) (fun _ _ z => z) (fun h' u tk hk => ⟨.str _, H, I.kept hk, ⟨_, rfl⟩, q⟩) h4
end
end G

set_option maxHeartbeats 1000000
/-! G.Ops4: isinstance, subscripts, slices, is None. -/
namespace G
open PySem L2 PyProof.Rows
section
variable {R : Rn} {σ : St} {e : Env} {H : Hp} {Ls : Nat → List Addr} {F : List Addr} {X : Cx} {sub : Nat → List Nat}
def Ty.nm : Ty → String
  | .int => "int"
  | .bool => "bool"
  | .str => "str"
  | .list => "list"
  | .tuple => "tuple"
  | .dict => "dict"
  | .set => "set"
  | .ve => "ValueError"
  | .cls _ => "object"
def isTyN (n : String) (t : Ty) : Bool := n == t.nm || (n == "bool" && t.nm == "int")
theorem isTy_n {d : D} {n : String} {t : Ty} (h : tyD d = some n) (ht : t.own = false) : isTy sub t d = isTyN n t := by
  cases d <;> cases h <;> cases t <;> first | rfl | cases ht
theorem kit_isTy {K : PySem.W.Frag} {d : D} {n : String} {t : Ty} (h : tyD d = some n) (ht : t.own = false) : PySem.W.kitOne K (.type n) (.type t.nm) = some (isTy sub t d) := by
  rw [isTy_n h ht]
  cases d <;> cases h <;> cases t <;> first | (refine kit_ty ?_; decide +kernel) | cases ht
theorem kit_any {K : PySem.W.Frag} {d : D} {n : String} (h : tyD d = some n) : ∀ {ts : List Ty}, (∀ t ∈ ts, t.own = false) → PySem.W.kitAny K (.type n) (ts.map fun t => .type t.nm) = some (ts.any fun t => isTy sub t d)
  | [], _ => rfl
  | t :: r, ht => by
    have h1 := kit_isTy (K := K) (sub := sub) h (ht t List.mem_cons_self)
    have h2 := kit_any (K := K) h fun t z => ht t (List.mem_cons_of_mem _ z)
    simp only [List.map_cons, List.any_cons]
    refine kitAny_cons h1 (fun z => ?_) fun z => ?_
    · rw [z]; exact h2
    · rw [z]; rfl
theorem kit_rep {pins : List (Addr × Obj)} {s : Shared} {B : Addr → Prop} {n : Nat} {d : D} {v : V} {L : List Addr} {u : Value} {t : String} (I : L2.Inv X pins σ H s) (h : Rep R H B n d v L) (r : RelV v u) (ht : tyD d = some t) :
    ∃ P : Heap → Prop, PySem.W.KitX X.K u (.type t) P ∧ P s.heap ∧ u ≠ .builtin "__main__.__loader__#opaque" := by
  cases d with
  | non =>
    cases ht
    simp only [Rep] at h
    rw [h.1] at r
    cases r
    exact ⟨_, PySem.W.kitx_none, True.intro, fun z => nomatch z⟩
  | bl b =>
    cases ht
    rw [h.bl] at r
    cases r
    exact ⟨_, PySem.W.kitx_bool, True.intro, fun z => nomatch z⟩
  | int i =>
    cases ht
    rw [h.int] at r
    obtain ⟨t, rfl⟩ := r
    exact ⟨_, PySem.W.kitx_int, True.intro, fun z => nomatch z⟩
  | str x =>
    cases ht
    rw [h.str] at r
    obtain ⟨t, rfl⟩ := r
    exact ⟨_, PySem.W.kitx_str, True.intro, fun z => nomatch z⟩
  | tup l =>
    cases ht
    simp only [Rep] at h
    obtain ⟨a, xs, rfl, e, nb, hr⟩ := h
    cases r
    obtain ⟨_, _, _, o, h1, h2, _⟩ := I.hok a _ e
    exact ⟨_, PySem.W.kitx_tuple, ⟨o, h1, h2⟩, fun z => nomatch z⟩
  | lst l =>
    cases ht
    have z : ∃ a xs, v = .ref a ∧ H a = some (.lst xs) := by
      cases n with
      | zero => simp only [Rep] at h; obtain ⟨a, xs, rfl, e, _⟩ := h; exact ⟨a, xs, rfl, e⟩
      | succ n => simp only [Rep] at h; obtain ⟨a, xs, L', rfl, e, _⟩ := h; exact ⟨a, xs, rfl, e⟩
    obtain ⟨a, xs, rfl, e⟩ := z
    cases r
    obtain ⟨_, _, k, _, h1⟩ := I.hok a _ e
    exact ⟨_, PySem.W.kitx_list, ⟨_, h1, rfl⟩, fun z => nomatch z⟩
  | dct l =>
    cases ht
    have z : ∃ a es ep, v = .ref a ∧ H a = some (DicO R.w a es ep) := by
      cases n with
      | zero => simp only [Rep] at h; obtain ⟨a, es, ep, rfl, e, _⟩ := h; exact ⟨a, es, ep, rfl, e⟩
      | succ n => simp only [Rep] at h; obtain ⟨a, es, ep, L', rfl, e, _⟩ := h; exact ⟨a, es, ep, rfl, e⟩
    obtain ⟨a, es, ep, rfl, e⟩ := z
    cases r
    obtain ⟨⟨o, des, h1, h2, _⟩, _⟩ := I.hok a _ e
    exact ⟨_, PySem.W.kitx_dict, ⟨o, h1, h2.1⟩, fun z => nomatch z⟩
  | _ => cases ht
/-- isinstance of data by built-in classes -/
def rIsiG (sub : Nat → List Nat) : List V → Hp → VK → Prop := fun xs H Q => ∃ (R : Rn) (B : Addr → Prop) (n : Nat) (d : D) (v : V) (L : List Addr) (ts : List Ty), Rep R H B n d v L ∧ (tyD d).isSome = true ∧ (∀ t ∈ ts, t.own = false) ∧
  ((∃ t, ts = [t] ∧ xs = [v, .ty t.nm]) ∨ ∃ tp, xs = [v, .ref tp] ∧ H tp = some (.tup (ts.map fun t => .ty t.nm))) ∧ Q (.bl (ts.any fun t => isTy sub t d)) H
theorem clsVs : ∀ ts : List Ty, Paired ClsV (ts.map fun t => V.ty t.nm) (ts.map fun t => Value.type t.nm)
  | [] => .nil
  | t :: r => .cons (.ty _) (clsVs r)
theorem cr_isi : CallR X (.builtin "isinstance") (rIsiG sub) := by
  intro pins s σ H xs us Q I r h
  obtain ⟨R, B, n, d, v, L, ts, hr, hd, ht, hx, q⟩ := h
  obtain ⟨t, hd⟩ := Option.isSome_iff_exists.mp hd
  rcases hx with ⟨t', rfl, rfl⟩ | ⟨tp, rfl, hT⟩
  · obtain ⟨u1, u2, rfl, r1, r2⟩ := vals2 r
    cases r2
    obtain ⟨P, Z, p, hx⟩ := kit_rep I hr r1 hd
    have hk := kit_isTy (K := X.K) (sub := sub) hd (ht t' (by simp))
    simp only [List.any_cons, List.any_nil, Bool.or_false] at q
    exact PySem.W.kia_one Z I.kIn p hk hx fun tk => ⟨.bl _, H, I.tok tk, rfl, q⟩
  · obtain ⟨u1, u2, rfl, r1, r2⟩ := vals2 r
    cases r2
    obtain ⟨P, Z, p, hx⟩ := kit_rep I hr r1 hd
    obtain ⟨_, its, rv, o, h1, h2, n, h3⟩ := I.hok tp _ hT
    have e3 := ClsV.all (clsVs ts) rv
    subst e3
    obtain ⟨oc, od, dt, sl⟩ := o
    simp only at h2 h3
    subst h2 h3
    exact PySem.W.kia_tup Z I.kIn p h1 (kit_any (sub := sub) hd ht) hx fun tk => ⟨.bl _, H, I.tok tk, rfl, q⟩

/-! ### subscripts of lists and tuples -/
theorem at_idx {x y : V} {Q : VK} (h : At R σ e H Ls F sub .idx [x, y] Q) : rIx X.K x y H Q := by
  obtain ⟨⟨l, d, rr, hk, hb, k⟩, g⟩ := h
  obtain ⟨a, b, hl, hf⟩ := b2_some (f := idxD) hb
  obtain ⟨n1, n2, v1, v2, L1, L2, rfl, hv, r1, r2⟩ := rr.two hl
  cases hv
  have k : QK R σ e H Ls F 0 d Q := k
  unfold idxD at hf
  split at hf
  · rename_i l i
    obtain ⟨p, xs, rfl, e1, q1⟩ := r1.lst (hk (n1, _) (by simp))
    obtain ⟨j, h1, h2, h3, h4, h5⟩ := atI_get hf
    obtain ⟨v, hv, rv⟩ := q1.get h2
    refine (.inl ⟨p, xs, i, v, rfl, r2.int, .of e1, ?_, k.val g rv⟩)
    unfold atI
    unfold atI at hf
    rw [q1.length]
    cases hz : ixN l.length i with
    | none => rw [hz] at hf; cases hf
    | some j' =>
      rw [hz] at hf
      obtain ⟨z1, _⟩ := ixN_seq hz
      rw [h1] at z1
      cases z1
      exact hv
  · rename_i l i
    obtain ⟨p, xs, rfl, e1, nb, q1⟩ := r1.tup (hk (n1, _) (by simp))
    obtain ⟨j, h1, h2, h3, h4, h5⟩ := atI_get hf
    obtain ⟨v, hv, rv⟩ := q1.get h2
    refine (.inr (.inl ⟨p, xs, i, v, rfl, r2.int, .of e1, ?_, k.val g rv⟩))
    unfold atI
    unfold atI at hf
    rw [q1.length]
    cases hz : ixN l.length i with
    | none => rw [hz] at hf; cases hf
    | some j' =>
      rw [hz] at hf
      obtain ⟨z1, _⟩ := ixN_seq hz
      rw [h1] at z1
      cases z1
      exact hv
  · cases hf
/-! ### slices -/
def rSlG (K : PySem.W.Frag) : V → Option Int → Option Int → Hp → VK → Prop := fun x lo hi H Q => rSlL K x lo hi H Q ∨ rSlA K x lo hi H Q
theorem sl_g : SlR X (rSlG X.K) := sl_list.or sl_tupA
theorem Reps.slice {B : Addr → Prop} {n : Nat} {l : List D} {xs : List V} (h : Reps R H B n l xs []) (lo hi : Option Int) : Reps R H B n (cut l lo hi) (cutV xs lo hi) [] := by
  unfold cut cutV
  rw [h.length]
  exact (h.drop _).take _
theorem cut_all {α : Type} {l : List α} {lo hi : Option Int} (h : HT.sIx l.length 0 lo = 0 ∧ HT.sIx l.length l.length hi = l.length) : cut l lo hi = l := by
  unfold cut
  rw [h.1, h.2]
  simp
theorem Reps.ofInts {B : Addr → Prop} {n : Nat} : ∀ l : List Int, Reps R H B n (l.map .int) (l.map V.int) []
  | [] => by simp [Reps]
  | i :: l => by
    simp only [List.map_cons, Reps]
    exact ⟨_, _, [], [], rfl, rfl, by simp [Rep], Reps.ofInts l⟩
theorem slc_of {x : V} {n : Nat} {a d : D} {L : List Addr} {lo hi : Option Int} {Q : VK} (r : Rep R H (Bn R Ls F) n a x L) (hk : ok1 n a = true) (hf : slcD lo hi a = some d) (k : QK R σ e H Ls F (top d) d Q) (g : Good R σ e H Ls F) : rSlG X.K x lo hi H Q := by
  unfold slcD at hf
  split at hf
  · cases hf
    obtain ⟨p, xs, rfl, e1, q1⟩ := r.lst hk
    exact .inl ⟨p, xs, rfl, .of e1, k.newL g (q1.slice lo hi)⟩
  · rename_i l
    cases hf
    obtain ⟨p, xs, rfl, e1, nb, q1⟩ := r.tup hk
    have k0 : QK R σ e H Ls F 0 _ Q := k
    refine .inr ⟨p, xs, rfl, .of e1, fun z => ?_, fun _ => k0.newT g (q1.slice lo hi)⟩
    rw [q1.length] at z
    rw [cut_all z] at k0
    exact k0.val g (Rep.tup0 e1 nb q1)
  · rename_i l
    cases hf
    simp only [Rep] at r
    obtain ⟨_, p, rfl, e1, nb⟩ := r
    exact .inl ⟨p, l.map V.int, rfl, .inl e1, k.newL g (Reps.slice (Reps.ofInts l) lo hi)⟩
  · cases hf
theorem at_slc_tt {x y z : V} {Q : VK} (h : At R σ e H Ls F sub (.slc true true) [x, y, z] Q) : ∃ a b, y = .int a ∧ z = .int b ∧ rSlG X.K x (some a) (some b) H Q := by
  obtain ⟨⟨l, d, rr, hk, hb, k⟩, g⟩ := h
  have hb : bSlc true true (l.map (·.2)) = some d := hb
  generalize hm : l.map (·.2) = ds at hb
  match ds, hb with
  | [a, .int b, .int c], hb =>
    obtain ⟨n1, n2, n3, v1, v2, v3, L1, L2, L3, rfl, hv, r1, r2, r3⟩ := rr.three hm
    cases hv
    exact ⟨_, _, r2.int, r3.int, slc_of r1 (hk (n1, _) (by simp)) hb k g⟩
theorem at_slc_tf {x y : V} {Q : VK} (h : At R σ e H Ls F sub (.slc true false) [x, y] Q) : ∃ a, y = .int a ∧ rSlG X.K x (some a) none H Q := by
  obtain ⟨⟨l, d, rr, hk, hb, k⟩, g⟩ := h
  have hb : bSlc true false (l.map (·.2)) = some d := hb
  generalize hm : l.map (·.2) = ds at hb
  match ds, hb with
  | [a, .int b], hb =>
    obtain ⟨n1, n2, v1, v2, L1, L2, rfl, hv, r1, r2⟩ := rr.two hm
    cases hv
    exact ⟨_, r2.int, slc_of r1 (hk (n1, _) (by simp)) hb k g⟩
theorem at_slc_ft {x y : V} {Q : VK} (h : At R σ e H Ls F sub (.slc false true) [x, y] Q) : ∃ a, y = .int a ∧ rSlG X.K x none (some a) H Q := by
  obtain ⟨⟨l, d, rr, hk, hb, k⟩, g⟩ := h
  have hb : bSlc false true (l.map (·.2)) = some d := hb
  generalize hm : l.map (·.2) = ds at hb
  match ds, hb with
  | [a, .int b], hb =>
    obtain ⟨n1, n2, v1, v2, L1, L2, rfl, hv, r1, r2⟩ := rr.two hm
    cases hv
    exact ⟨_, r2.int, slc_of r1 (hk (n1, _) (by simp)) hb k g⟩
/-! ### is None -/
theorem none_of_rep {B : Addr → Prop} {n : Nat} {d : D} {v : V} {L : List Addr} (h : Rep R H B n d v L) : decide (v = .non) = isNone d := by
  cases d with
  | non => simp only [Rep] at h; rw [h.1]; rfl
  | bl b => rw [h.bl]; rfl
  | int i => rw [h.int]; rfl
  | str x => rw [h.str]; rfl
  | tup l => simp only [Rep] at h; obtain ⟨a, xs, rfl, _⟩ := h; rfl
  | lst l =>
    cases n with
    | zero => simp only [Rep] at h; obtain ⟨a, xs, rfl, _⟩ := h; rfl
    | succ n => simp only [Rep] at h; obtain ⟨a, xs, L', rfl, _⟩ := h; rfl
  | dct l =>
    cases n with
    | zero => simp only [Rep] at h; obtain ⟨a, es, ep, rfl, _⟩ := h; rfl
    | succ n => simp only [Rep] at h; obtain ⟨a, es, ep, L', rfl, _⟩ := h; rfl
  | rnd => simp only [Rep] at h; obtain ⟨_, r, _, rfl⟩ := h; rfl
  | scr l => simp only [Rep] at h; obtain ⟨_, a, rfl, _⟩ := h; rfl
  | set l => simp [Rep] at h
  | ins c fs => simp [Rep] at h
  | exn c fs => simp only [Rep] at h; obtain ⟨_, a, _, _, rfl, _⟩ := h; rfl
  | clo b cs => simp [Rep] at h
theorem at_isN {x : V} {Q : VK} (h : At R σ e H Ls F sub .isN [x] Q) : Q (.bl (decide (x = .non))) H := by
  obtain ⟨n, a, v, L, d, hv, r, hk, hf, k, g⟩ := at_1 (fun _ => rfl) h
  cases hv
  cases hf
  rw [none_of_rep r]
  exact k.bl g
theorem at_notN {x : V} {Q : VK} (h : At R σ e H Ls F sub .notN [x] Q) : Q (.bl (!decide (x = .non))) H := by
  obtain ⟨n, a, v, L, d, hv, r, hk, hf, k, g⟩ := at_1 (fun _ => rfl) h
  cases hv
  cases hf
  rw [none_of_rep r]
  exact k.bl g
/-! ### a range as a list, as a tuple; backwards -/
theorem Reps.rg {B : Addr → Prop} {n : Nat} (a b : Int) : Reps R H B n (rangeD a b) (rgV a b) [] := by
  have z : ∀ l : List Nat, Reps R H B n (l.map fun i => D.int (a + (i : Nat))) (l.map fun i => V.int (a + (i : Nat))) [] := by
    intro l
    induction l with
    | nil => exact .nil
    | cons i l ih => exact .cons (by simp [Rep]) ih
  exact z _
theorem at_tupR {x : V} {Q : VK} (h : At R σ e H Ls F sub .tupR [x] Q) : ∃ n, x = .int n ∧ (0 ≤ n ∧ n ≤ 10000) ∧ ∀ q, H q = none → Q (.ref q) (upd H q (.tup (rgV 0 n))) := by
  obtain ⟨n, a, v, L, d, hv, r, hk, hf, k, g⟩ := at_1 (fun _ => rfl) h
  cases hv
  split at hf
  · rename_i m
    split at hf
    · rename_i hz
      cases hf
      have k0 : QK R σ e H Ls F 0 _ Q := k
      exact ⟨m, r.int, hz, k0.newT g (Reps.rg 0 m)⟩
    · cases hf
  · cases hf
theorem at_listR {x : V} {Q : VK} (h : At R σ e H Ls F sub .listR [x] Q) : ∃ n, x = .int n ∧ (0 ≤ n ∧ n ≤ 10000) ∧ ∀ q, H q = none → Q (.ref q) (upd H q (.lst (rgV 0 n))) := by
  obtain ⟨n, a, v, L, d, hv, r, hk, hf, k, g⟩ := at_1 (fun _ => rfl) h
  cases hv
  split at hf
  · rename_i m
    split at hf
    · rename_i hz
      cases hf
      exact ⟨m, r.int, hz, k.newL g (Reps.rg 0 m)⟩
    · cases hf
  · cases hf
end
end G

set_option maxHeartbeats 1000000
/-! G.Snd1: the judgements; expressions. -/
namespace L2
open PySem PyProof.Rows
section
variable {X : Cx}
theorem PE.imp {a : Expr} {t u : TE} (h : PE X a t) (f : ∀ σ H Q, u σ H Q → t σ H Q) : PE X a u := ⟨fun pins s σ H Q I z => h.run pins s σ H Q I (f _ _ _ z)⟩
theorem PT.imp {a : Expr} {t u : TT} (h : PT X a t) (f : ∀ σ H Q, u σ H Q → t σ H Q) : PT X a u := ⟨fun pins s σ H Q I z => h.run pins s σ H Q I (f _ _ _ z)⟩
theorem PW.imp {a : Expr} {t u : TT} (h : PW X a t) (f : ∀ σ H Q, u σ H Q → t σ H Q) : PW X a u := ⟨fun w pins s σ H Q I z => h.run w pins s σ H Q I (f _ _ _ z)⟩
theorem PA.imp {a : List Expr} {t u : TA} (h : PA X a t) (f : ∀ σ H Q, u σ H Q → t σ H Q) : PA X a u := ⟨fun p pins s σ H Q I z => h.run p pins s σ H Q I (f _ _ _ z)⟩
theorem PS.imp {a : Stmt} {t u : TS} (h : PS X a t) (f : ∀ D σ H, u D σ H → t D σ H) : PS X a u := ⟨fun pins s σ H D I z => h.run pins s σ H D I (f _ _ _ z)⟩
theorem PSs.imp {a : List Stmt} {t u : TS} (h : PSs X a t) (f : ∀ D σ H, u D σ H → t D σ H) : PSs X a u := ⟨fun pins s σ H D I z => h.run pins s σ H D I (f _ _ _ z)⟩
end
end L2
namespace G
open PySem L2 PyProof.Rows
/-- what a body is read with -/
structure Cg where
  R : Rn
  W : WD
  sub : Nat → List Nat
  F : Nat → Fn
section
variable (g : Cg) (X : Cx)
/-- an expression -/
structure JE (a : Expr) (e : E) : Prop where
  val : PE X a (tV g.R g.W (ev g.sub g.F e).val)
  plc : PE X a (tP g.R g.W (plOf e (ev g.sub g.F e).val))
  tst : PT X a (tT g.R g.W (ev g.sub g.F e).test)
/-- and, or: a test whatever its whole is -/
structure JB (a : Expr) (e : E) : Prop where
  val : PE X a (tV g.R g.W (ev g.sub g.F e).val)
  tst : PW X a (tT g.R g.W (ev g.sub g.F e).test)
def JA (as : List Expr) (es : Es) : Prop := PA X as (tA g.R g.W (evPs g.sub g.F es))
/-- the value's truth -/
def PlainT (a : Expr) : Prop := ∀ whole, isTrue a X.env whole = (do let v ← whole; standAt a.pos; holding [v] (truthy v))
end
section
variable {g : Cg} {X : Cx} {R : Rn} {W : WD} {σ : St} {e : Env} {H : Hp} {Ls : Nat → List Addr} {F : List Addr}

/-! ### truth -/
def rTruG : V → Hp → (Bool → Hp → Prop) → Prop := fun x H Q => ∃ (R : Rn) (B : Addr → Prop) (n : Nat) (d : D) (L : List Addr) (k : Bool), Rep R H B n d x L ∧ d.truth = some k ∧ Q k H
theorem tru_g : TruR X rTruG := by
  intro pins s σ H x v Q I rx h
  obtain ⟨R, B, n, d, L, k, r, hd, q⟩ := h
  refine tru_ok pins s σ H x v Q I rx ⟨k, ?_, q⟩
  cases d with
  | non =>
    simp only [Rep] at r
    rw [r.1]
    exact (Option.some.inj hd).symm
  | bl b => rw [r.bl]; exact (Option.some.inj hd).symm
  | int i => rw [r.int]; exact (Option.some.inj hd).symm
  | str x =>
    rw [r.str]
    simp only [D.truth] at hd
    split at hd
    · rename_i hz; exact ⟨hz, (Option.some.inj hd).symm⟩
    · cases hd
  | tup l =>
    simp only [Rep] at r
    obtain ⟨a, xs, rfl, e, nb, hr⟩ := r
    refine .inr (.inl ⟨xs, .of e, ?_⟩)
    rw [← Option.some.inj hd]
    have := hr.length
    cases xs <;> cases l <;> first | rfl | cases this
  | lst l =>
    have z : ∃ a xs, x = .ref a ∧ H a = some (.lst xs) ∧ xs.length = l.length := by
      cases n with
      | zero => simp only [Rep] at r; obtain ⟨a, xs, rfl, e, _, _, hr⟩ := r; exact ⟨a, xs, rfl, e, hr.length⟩
      | succ n => simp only [Rep] at r; obtain ⟨a, xs, L', rfl, e, _, hr⟩ := r; exact ⟨a, xs, rfl, e, hr.length⟩
    obtain ⟨a, xs, rfl, e, hl⟩ := z
    refine .inl ⟨xs, .of e, ?_⟩
    rw [← Option.some.inj hd]
    cases xs <;> cases l <;> first | rfl | cases hl
  | _ => cases hd
theorem pt_g {a : Expr} {ta : TE} (ha : PE X a ta) (he : PlainT X a) : PT X a (fun σ H Q => ta σ H fun x H' => rTruG x H' Q) := by
  refine ⟨fun pins s σ H Q I h => ?_⟩
  exact isTrue_plain (thn (ha.run pins s σ H _ I h) fun v s1 ⟨x, H1, I1, r1, q1⟩ => tru_g pins s1 σ H1 x v Q I1 r1 q1) (he _)

/-! ### from a value to a place, to a test -/
theorem no_V {H : Hp} {B : Addr → Prop} {F : List Addr} {Q : VK} : ¬ PostV R W σ H B F Q .no := fun z => z
theorem no_P {H : Hp} {B : Addr → Prop} {F : List Addr} {Q : VK} : ¬ PostP R W σ H B F Q .no := fun z => z
theorem no_A {H : Hp} {B : Addr → Prop} {F : List Addr} {Q : List V → Hp → Prop} : ¬ PostA R W σ H B F Q .no := fun z => z
theorem no_T {H : Hp} {B : Addr → Prop} {F : List Addr} {Q : Bool → Hp → Prop} : ¬ PostT R W σ H B F Q .no := fun z => z
theorem tP_of_tV {m : M (Nat × D)} {Q : VK} (h : tP R W (mb m fun r => pu (.t r.1 r.2)) σ H Q) : tV R W m σ H Q := by
  obtain ⟨e, Ls, F, G, h⟩ := h
  exact tV_then G h (fun _ _ z => z) no_P fun r e' v H' Ls' Lt hr s g x => hr v H' Ls' Lt s g x
/-- behind a temporary is let go -/
theorem Good.letgo {H0 : Hp} {B0 : Addr → Prop} {Lt : List Addr} (g : Good R σ e H Ls (Lt ++ F)) (st : Step H0 B0 H (Bn R Ls (Lt ++ F)) F) : Good R σ e H Ls F ∧ Step H0 B0 H (Bn R Ls F) F ∧ Step H (Bn R Ls (Lt ++ F)) H (Bn R Ls F) F := by
  have fd := List.nodup_append.mp g.fd
  obtain ⟨g', s'⟩ := g.drop (F' := F) (fun a z => List.mem_append_right _ z) fd.2.1
  refine ⟨g', ⟨st.ext, st.frm, fun a z => st.bn a ?_⟩, s'⟩
  rcases z with z | z
  · exact .inl (List.mem_append_right _ z)
  · exact .inr z
theorem tru_run {m : M Pl} {Q : Bool → Hp → Prop} (h : tT R W (mb m fun p => mb (rdP p) truthE) σ H Q) : tP R W m σ H fun x H' => rTruG x H' Q := by
  obtain ⟨e, Ls, F, G, h⟩ := h
  refine tP_then G h (fun _ _ z => z) no_T fun p e' v H' Ls' Lt hr s g pr => ?_
  obtain ⟨r, L', h2, rr⟩ := rdP_all g pr (all_mb.mp hr) no_T
  have h2 : (truthE r e').All (PostT R W σ H (Bn R Ls F) F Q) := h2
  cases hk : r.2.truth with
  | none =>
    unfold truthE at h2
    rw [hk] at h2
    exact h2.elim
  | some k =>
    unfold truthE at h2
    rw [hk] at h2
    obtain ⟨g2, s2, _⟩ := g.letgo s
    exact ⟨R, _, r.1, r.2, L', k, rr, hk, h2 H' Ls' s2 g2⟩
theorem JE.of {a : Expr} {e : E} (hv : PE X a (tV g.R g.W (ev g.sub g.F e).val)) (hp : ∀ m, plOf e m = mb m fun r => pu (.t r.1 r.2)) (ht : (ev g.sub g.F e).test = mb (plOf e (ev g.sub g.F e).val) fun p => mb (rdP p) truthE) (he : PlainT X a) : JE g X a e := by
  have hpl : PE X a (tP g.R g.W (plOf e (ev g.sub g.F e).val)) := by
    rw [hp]
    exact hv.imp fun σ H Q z => tP_of_tV z
  refine ⟨hv, hpl, ?_⟩
  rw [ht]
  exact (pt_g hpl he).imp fun σ H Q z => tru_run z

/-! ### names, constants -/
theorem je_v {i : Nat} {x : Str} {pos : Pos} (hN : X.N[i]? = some x := by rfl) (hv : Vis X.env.scope x := by first | exact Or.inl rfl | exact Or.inr (Or.inl rfl) | exact Or.inr (Or.inr rfl)) (hd : (x == ("__debug__" : Str)) = false := by decide) (hcd : (x == ("__classdict__" : Str)) = false := by decide) : JE g X (.Name x pos) (.v i) := by
  have h0 : PE X (.Name x pos) (tVar i) := pe_var hN hv hd hcd
  have hpl : PE X (.Name x pos) (tP g.R g.W (plOf (.v i) (ev g.sub g.F (.v i)).val)) := h0.imp fun σ H Q z => by
    obtain ⟨e, Ls, F, G, h⟩ := z
    obtain ⟨⟨n, d⟩, h1, h2⟩ := getE_all (all_mb.mp h) no_P
    obtain ⟨v, e1, rp⟩ := G.rep i n d h1
    exact ⟨v, e1, h2 v H Ls [] .refl G ⟨rfl, e1⟩⟩
  refine ⟨h0.imp fun σ H Q z => ?_, hpl, (pt_g hpl fun _ => rfl).imp fun σ H Q z => tru_run z⟩
  obtain ⟨e, Ls, F, G, h⟩ := z
  have h : (frzE i e).All (PostV g.R g.W σ H (Bn g.R Ls F) F Q) := h
  obtain ⟨⟨n, d⟩, h1, _⟩ := getE_all (P := fun r => r ≠ .no) (i := i) (e := e) (by
    unfold getE
    split
    · exact fun z => nomatch z
    · rename_i hz
      have z : frzE i e = .ret .no := by
        unfold frzE mb getE
        split
        · rename_i r hr; exact absurd hr (hz r)
        · rfl
      rw [z] at h
      exact h.elim) (fun z => z rfl)
  rw [frzE_ok h1] at h
  obtain ⟨v, e1, G', s, r0⟩ := G.give h1
  exact ⟨v, e1, h v H _ [] s G' r0⟩
/-- a datum that never changes -/
theorem tC_run {d : D} {v : V} {m : Nat} {Q : VK} (hr : ∀ (H : Hp) (B : Addr → Prop), Rep R H B m d v []) (h : tV R W (pu (m, d)) σ H Q) : tC v σ H Q := by
  obtain ⟨e, Ls, F, G, h⟩ := h
  exact h v H Ls [] .refl G (hr _ _)
theorem je_int {i : Int} {j : Nat} {pos : Pos} : JE g X (.Constant (.int i) j pos) (.c (.int i)) := .of (pe_int.imp fun σ H Q z => tC_run (by simp [Rep]) z) (fun _ => rfl) rfl fun _ => rfl
theorem je_bl {i : Bool} {j : Nat} {pos : Pos} : JE g X (.Constant (.bool i) j pos) (.c (.bl i)) := .of (pe_bl.imp fun σ H Q z => tC_run (by simp [Rep]) z) (fun _ => rfl) rfl fun _ => rfl
theorem je_non {j : Nat} {pos : Pos} : JE g X (.Constant .none j pos) (.c .non) := .of (pe_non.imp fun σ H Q z => tC_run (by simp [Rep]) z) (fun _ => rfl) rfl fun _ => rfl
theorem je_str {i : Str} {j : Nat} {pos : Pos} : JE g X (.Constant (.str i) j pos) (.c (.str i)) := .of (pe_str.imp fun σ H Q z => tC_run (by simp [Rep]) z) (fun _ => rfl) rfl fun _ => rfl
theorem je_gint {x : Str} {i : Int} {t : Tok} {pos : Pos} (hg : Gl X x) (hm : X.mg x = some (.int i t)) (hd : (x == ("__debug__" : Str)) = false := by decide) : JE g X (.Name x pos) (.g x (.int i)) := .of ((pe_glob hg hm (v := .int i) ⟨t, rfl⟩ hd).imp fun σ H Q z => tC_run (by simp [Rep]) z) (fun _ => rfl) rfl fun _ => rfl
theorem je_gstr {x : Str} {i : Str} {t : Tok} {pos : Pos} (hg : Gl X x) (hm : X.mg x = some (.str i t)) (hd : (x == ("__debug__" : Str)) = false := by decide) : JE g X (.Name x pos) (.g x (.str i)) := .of ((pe_glob hg hm (v := .str i) ⟨t, rfl⟩ hd).imp fun σ H Q z => tC_run (by simp [Rep]) z) (fun _ => rfl) rfl fun _ => rfl
end
end G

set_option maxHeartbeats 1000000
/-! G.Snd2: argument lists, operators, comparisons. -/
namespace G
open PySem L2 PyProof.Rows
section
variable {g : Cg} {X : Cx} {R : Rn} {W : WD} {σ : St} {e : Env} {H : Hp} {Ls : Nat → List Addr} {F : List Addr} {sub : Nat → List Nat}

theorem mb_assoc {α β γ : Type} {m : M α} {f : α → M β} {k : β → M γ} : mb (mb m f) k = mb m fun a => mb (f a) k := by
  funext e
  show ((m e).bind (mk f)).bind (mk k) = (m e).bind (mk fun a => mb (f a) k)
  rw [Tr.bind_assoc]
  congr
  funext r
  cases r <;> rfl
theorem mb_pu {α β : Type} {a : α} {f : α → M β} : mb (pu a) f = f a := rfl
/-- owned, in another order -/
theorem Good.two {L1 L2 : List Addr} (g : Good R σ e H Ls (L2 ++ (L1 ++ F))) : Good R σ e H Ls ((L1 ++ L2) ++ F) ∧ ∀ a, Bn R Ls ((L1 ++ L2) ++ F) a ↔ Bn R Ls (L2 ++ (L1 ++ F)) a :=
  g.perm (by rw [List.append_assoc]; exact List.perm_append_comm_assoc L2 L1 F)
theorem Step.iff {H' : Hp} {B B' B2 : Addr → Prop} {F : List Addr} (s : Step H B H' B' F) (h : ∀ a, B2 a ↔ B' a) : Step H B H' B2 F := ⟨s.ext, s.frm, fun a z => s.bn a ((h a).mp z)⟩
theorem Step.of_iff {H : Hp} {B B' : Addr → Prop} {F : List Addr} (h : ∀ a, B' a ↔ B a) : Step H B H B' F := ⟨fun _ _ e _ => e, fun _ _ => rfl, fun a z => .inl ((h a).mp z)⟩
/-- the end of two steps: what is wanted at last -/
theorem Step.two {H0 H1 H2 : Hp} {B0 : Addr → Prop} {Ls1 Ls2 : Nat → List Addr} {L1 L2 : List Addr} (s : Step H0 B0 H1 (Bn R Ls1 (L1 ++ F)) F) (t : Step H1 (Bn R Ls1 (L1 ++ F)) H2 (Bn R Ls2 (L2 ++ (L1 ++ F))) (L1 ++ F)) (h : ∀ a, Bn R Ls2 ((L1 ++ L2) ++ F) a ↔ Bn R Ls2 (L2 ++ (L1 ++ F)) a) :
    Step H0 B0 H2 (Bn R Ls2 ((L1 ++ L2) ++ F)) F := (s.trans t fun a z => List.mem_append_right _ z).iff h
theorem ErrK.by {H0 : Hp} {B0 : Addr → Prop} {L1 : List Addr} {Ls1 : Nat → List Addr} {x : D} {e' : Env} (st : Step H0 B0 H (Bn R Ls1 (L1 ++ F)) F) (h : ErrK R W σ H0 B0 F x e') : ErrK R W σ H (Bn R Ls1 (L1 ++ F)) (L1 ++ F) x e' := fun H' Ls' s g => by
  obtain ⟨g2, s2, s3⟩ := g.letgo (Lt := L1) (F := F) (st.trans s fun a z => List.mem_append_right _ z)
  exact fun cls dd x => h H' Ls' s2 g2 cls dd (x.by s3)

/-! ### argument lists -/
theorem tA_nil {Q : List V → Hp → Prop} (h : tA R W (pu []) σ H Q) : tNil σ H Q := by
  obtain ⟨e, Ls, F, G, h⟩ := h
  exact h [] H Ls [] .refl G ⟨rfl, rfl⟩
theorem tA_cons {pa : M Pl} {ma : M (List Pl)} {Q : List V → Hp → Prop} (h : tA R W (mb pa fun p => mb ma fun ps => pu (p :: ps)) σ H Q) : tCons (tP R W pa) (tA R W ma) σ H Q := by
  obtain ⟨e, Ls, F, G, h⟩ := h
  refine tP_then G h (fun _ _ z => z) no_A fun p e1 v H1 Ls1 L1 h1 s1 g1 p1 => ?_
  refine tA_then g1 h1 (fun x e' z => z.by s1) no_A fun ps e2 vs H2 Ls2 L2 h2 s2 g2 p2 => ?_
  obtain ⟨g3, hb⟩ := g2.two
  refine h2 (v :: vs) H2 Ls2 (L1 ++ L2) (s1.two s2 hb) g3 ⟨v, vs, L1, L2, rfl, rfl, ?_, ?_⟩
  · exact (p1.by s2 fun a z => s2.frm a (List.mem_append_left _ z)).by (Step.of_iff (F := []) hb) fun _ _ => rfl
  · exact p2.by (Step.of_iff (F := []) hb) fun _ _ => rfl
theorem ja_nil : JA g X [] .nil := PA.imp pa_nil fun σ H Q z => tA_nil z
theorem ja_cons {a : Expr} {as : List Expr} {x : E} {xs : Es} (ha : JE g X a x) (hr : JA g X as xs) (hs : starEach (a :: as) X.env = (false, eval a X.env) :: starEach as X.env := by rfl) : JA g X (a :: as) (.cons x xs) :=
  PA.imp (pa_cons ha.plc hr hs) fun σ H Q z => tA_cons z
theorem tA_mono {ma : M (List Pl)} {Q Q' : List V → Hp → Prop} (h : tA R W ma σ H Q) (f : ∀ vs H, Q vs H → Q' vs H) : tA R W ma σ H Q' := by
  obtain ⟨e, Ls, F, G, h⟩ := h
  refine ⟨e, Ls, F, G, h.mono fun r hr => ?_⟩
  cases r with
  | ok p e => exact fun vs H' Ls' Lt s g x => f _ _ (hr vs H' Ls' Lt s g x)
  | err x e => exact hr
  | no => exact hr
theorem tV_mono {ma : M (Nat × D)} {Q Q' : VK} (h : tV R W ma σ H Q) (f : ∀ vs H, Q vs H → Q' vs H) : tV R W ma σ H Q' := by
  obtain ⟨e, Ls, F, G, h⟩ := h
  refine ⟨e, Ls, F, G, h.mono fun r hr => ?_⟩
  cases r with
  | ok p e => exact fun vs H' Ls' Lt s g x => f _ _ (hr vs H' Ls' Lt s g x)
  | err x e => exact hr
  | no => exact hr
theorem tP_mono {ma : M Pl} {Q Q' : VK} (h : tP R W ma σ H Q) (f : ∀ vs H, Q vs H → Q' vs H) : tP R W ma σ H Q' := by
  obtain ⟨e, Ls, F, G, h⟩ := h
  refine ⟨e, Ls, F, G, h.mono fun r hr => ?_⟩
  cases r with
  | ok p e => exact fun vs H' Ls' Lt s g x => f _ _ (hr vs H' Ls' Lt s g x)
  | err x e => exact hr
  | no => exact hr

/-! ### operations -/
def AtX (R : Rn) (σ : St) (sub : Nat → List Nat) (o : B) (vs : List V) (H : Hp) (Q : VK) : Prop := ∃ e Ls F, At R σ e H Ls F sub o vs Q
theorem op_run {ma : M (List Pl)} {o : B} {Q : VK} (h : tV R W (mb ma fun ps => bopE sub o ps) σ H Q) : tA R W ma σ H fun vs H' => AtX R σ sub o vs H' Q := by
  obtain ⟨e, Ls, F, G, h⟩ := h
  refine tA_then G h (fun _ _ z => z) no_V fun ps e1 vs H1 Ls1 L1 h1 s1 g1 p1 => ?_
  exact ⟨e1, Ls1, L1 ++ F, bop_run g1 p1 s1 h1, g1⟩
theorem tA_1 {pa : M Pl} {P : List V → Hp → Prop} (h : tA R W (mb pa fun p => mb (pu []) fun ps => pu (p :: ps)) σ H P) : tP R W pa σ H fun x H1 => P [x] H1 :=
  tP_mono (tA_cons h) fun x H z => tA_nil z
theorem tA_2 {pa pb : M Pl} {P : List V → Hp → Prop} (h : tA R W (mb pa fun p => mb (mb pb fun p => mb (pu []) fun ps => pu (p :: ps)) fun ps => pu (p :: ps)) σ H P) : tP R W pa σ H fun x H1 => tP R W pb σ H1 fun y H2 => P [x, y] H2 :=
  tP_mono (tA_cons h) fun x H z => tA_1 z
theorem tA_3 {pa pb pc : M Pl} {P : List V → Hp → Prop} (h : tA R W (mb pa fun p => mb (mb pb fun p => mb (mb pc fun p => mb (pu []) fun ps => pu (p :: ps)) fun ps => pu (p :: ps)) fun ps => pu (p :: ps)) σ H P) :
    tP R W pa σ H fun x H1 => tP R W pb σ H1 fun y H2 => tP R W pc σ H2 fun z H3 => P [x, y, z] H3 :=
  tP_mono (tA_cons h) fun x H z => tA_2 z
theorem b2_run {x y : E} {o : B} {r : R2} {Q : VK} (hat : ∀ {e H Ls F x y Q}, At g.R σ e H Ls F g.sub o [x, y] Q → r x y H Q) (h : tV g.R g.W (ev g.sub g.F (.b o (.cons x (.cons y .nil)))).val σ H Q) :
    tOp r (tP g.R g.W (plOf x (ev g.sub g.F x).val)) (tP g.R g.W (plOf y (ev g.sub g.F y).val)) σ H Q := by
  have h1 := tA_mono (Q' := fun vs H' => ∀ x y, vs = [x, y] → r x y H' Q) (op_run (o := o) h) fun vs H' z x y e => by
    obtain ⟨_, _, _, z⟩ := z
    subst e
    exact hat z
  exact tP_mono (tA_2 h1) fun x H1 z => tP_mono z fun y H2 z => z x y rfl
theorem je_bin {a b : Expr} {x y : E} {o : B} {r : R2} {op : Operator} {pos : Pos} (ho : OpR X (binaryOp op) r) (hat : ∀ {e H Ls F x y Q} {σ : St}, At g.R σ e H Ls F g.sub o [x, y] Q → r x y H Q) (ha : JE g X a x) (hb : JE g X b y) : JE g X (.BinOp a op b pos) (.b o (.cons x (.cons y .nil))) :=
  .of ((pe_op ho ha.plc hb.plc).imp fun σ H Q z => b2_run hat z) (fun _ => rfl) rfl fun _ => rfl
section
variable {a b : Expr} {x y : E} {pos : Pos}
theorem je_add (ha : JE g X a x) (hb : JE g X b y) : JE g X (.BinOp a .Add b pos) (.b .add (.cons x (.cons y .nil))) := je_bin or_add at_add ha hb
theorem je_sub (ha : JE g X a x) (hb : JE g X b y) : JE g X (.BinOp a .Sub b pos) (.b .sub (.cons x (.cons y .nil))) := je_bin op_sub at_sub ha hb
theorem je_mul (ha : JE g X a x) (hb : JE g X b y) : JE g X (.BinOp a .Mult b pos) (.b .mul (.cons x (.cons y .nil))) := je_bin or_mul at_mul ha hb
theorem je_fdiv (ha : JE g X a x) (hb : JE g X b y) : JE g X (.BinOp a .FloorDiv b pos) (.b .fdiv (.cons x (.cons y .nil))) := je_bin op_fdiv at_fdiv ha hb
theorem je_mod (ha : JE g X a x) (hb : JE g X b y) : JE g X (.BinOp a .Mod b pos) (.b .mod (.cons x (.cons y .nil))) := je_bin op_mod at_mod ha hb
theorem je_pow (ha : JE g X a x) (hb : JE g X b y) : JE g X (.BinOp a .Pow b pos) (.b .pow (.cons x (.cons y .nil))) := je_bin op_pow at_pow ha hb
end

/-! ### comparisons -/
/-- a comparison's answer is a bool -/
def BoolR (r : R2) : Prop := ∀ x y H Q Q', (∀ b H, Q (V.bl b) H → Q' (V.bl b) H) → r x y H Q → r x y H Q'
theorem br_I {p : Int → Int → Bool} : BoolR (rI0 fun i j => .bl (p i j)) := fun x y H Q Q' f ⟨i, j, e1, e2, q⟩ => ⟨i, j, e1, e2, f _ _ q⟩
theorem br_eq {neg : Bool} : BoolR (rEqG neg) := fun x y H Q Q' f ⟨R, B, n1, d1, L1, n2, d2, L2, b, h1, h2, hb, q⟩ => ⟨R, B, n1, d1, L1, n2, d2, L2, b, h1, h2, hb, f _ _ q⟩
theorem br_in {neg : Bool} : BoolR (rInG neg) := fun x y H Q Q' f ⟨R, B, n1, d1, L1, n2, d2, L2, l, b, h1, h2, hd, hb, q⟩ => ⟨R, B, n1, d1, L1, n2, d2, L2, l, b, h1, h2, hd, hb, f _ _ q⟩
theorem rep_bl {R : Rn} {H : Hp} {B : Addr → Prop} {n : Nat} {d : D} {b : Bool} {L : List Addr} (h : Rep R H B n d (.bl b) L) : d = .bl b := by
  cases d with
  | non => simp only [Rep] at h; cases h.1
  | bl c => have := h.bl; cases this; rfl
  | int i => cases h.int
  | str x => cases h.str
  | tup l => simp only [Rep] at h; obtain ⟨a, xs, e, _⟩ := h; cases e
  | lst l =>
    cases n with
    | zero => simp only [Rep] at h; obtain ⟨a, xs, e, _⟩ := h; cases e
    | succ n => simp only [Rep] at h; obtain ⟨a, xs, L', e, _⟩ := h; cases e
  | dct l =>
    cases n with
    | zero => simp only [Rep] at h; obtain ⟨a, es, ep, e, _⟩ := h; cases e
    | succ n => simp only [Rep] at h; obtain ⟨a, es, ep, L', e, _⟩ := h; cases e
  | rnd => simp only [Rep] at h; obtain ⟨_, r, _, e⟩ := h; cases e
  | scr l => simp only [Rep] at h; obtain ⟨_, a, e, _⟩ := h; cases e
  | _ => simp [Rep] at h
theorem tru_bl {b : Bool} {H : Hp} {Q : Bool → Hp → Prop} (h : rTruG (.bl b) H Q) : Q b H := by
  obtain ⟨R, B, n, d, L, k, r, hd, q⟩ := h
  have z : d = .bl b := rep_bl r
  subst z
  cases hd
  exact q
theorem je_cmp {a b : Expr} {x y : E} {o : B} {r : R2} {op : CmpOp} {pos : Pos} (ho : OpR X (compareOp op) r) (hr : BoolR r) (hat : ∀ {e H Ls F x y Q} {σ : St}, At g.R σ e H Ls F g.sub o [x, y] Q → r x y H Q) (ha : JE g X a x) (hb : JE g X b y) (hm : behindInMarks op b = false) :
    JE g X (.Compare a [op] [b] pos) (.b o (.cons x (.cons y .nil))) := by
  have hv : PE X (.Compare a [op] [b] pos) (tV g.R g.W (ev g.sub g.F (.b o (.cons x (.cons y .nil)))).val) := (pe_cmpR ho ha.plc hb.plc hm).imp fun σ H Q z => b2_run hat z
  refine ⟨hv, hv.imp fun σ H Q z => tP_of_tV z, (pt_cmpR ho ha.plc hb.plc hm).imp fun σ H Q z => ?_⟩
  refine tP_mono (b2_run hat (tP_of_tV (tru_run z))) fun x H1 z => tP_mono z fun y H2 z => hr x y H2 _ _ (fun b H q => ?_) z
  exact ⟨b, rfl, tru_bl q⟩
section
variable {a b : Expr} {x y : E} {pos : Pos}
theorem je_lt (ha : JE g X a x) (hb : JE g X b y) (hm : behindInMarks .Lt b = false := by exact nobehind _ (by decide) (by decide)) : JE g X (.Compare a [.Lt] [b] pos) (.b .lt (.cons x (.cons y .nil))) := je_cmp op_lt br_I at_lt ha hb hm
theorem je_le (ha : JE g X a x) (hb : JE g X b y) (hm : behindInMarks .LtE b = false := by exact nobehind _ (by decide) (by decide)) : JE g X (.Compare a [.LtE] [b] pos) (.b .le (.cons x (.cons y .nil))) := je_cmp op_le br_I at_le ha hb hm
theorem je_gt (ha : JE g X a x) (hb : JE g X b y) (hm : behindInMarks .Gt b = false := by exact nobehind _ (by decide) (by decide)) : JE g X (.Compare a [.Gt] [b] pos) (.b .gt (.cons x (.cons y .nil))) := je_cmp op_gt br_I at_gt ha hb hm
theorem je_ge (ha : JE g X a x) (hb : JE g X b y) (hm : behindInMarks .GtE b = false := by exact nobehind _ (by decide) (by decide)) : JE g X (.Compare a [.GtE] [b] pos) (.b .ge (.cons x (.cons y .nil))) := je_cmp op_ge br_I at_ge ha hb hm
theorem je_eq (C : Cok X) (ha : JE g X a x) (hb : JE g X b y) (hm : behindInMarks .Eq b = false := by exact nobehind _ (by decide) (by decide)) : JE g X (.Compare a [.Eq] [b] pos) (.b .eq (.cons x (.cons y .nil))) := je_cmp (or_eq C) br_eq at_eq ha hb hm
theorem je_ne (C : Cok X) (ha : JE g X a x) (hb : JE g X b y) (hm : behindInMarks .NotEq b = false := by exact nobehind _ (by decide) (by decide)) : JE g X (.Compare a [.NotEq] [b] pos) (.b .ne (.cons x (.cons y .nil))) := je_cmp (or_ne C) br_eq at_ne ha hb hm
end
end
end G

set_option maxHeartbeats 1000000
/-! G.OpsD: dicts: their length, their keys as a list. -/
namespace G
open PySem L2 PyProof.Rows
section
variable {P : Program} {w : World} {A : Around} {E : Value → Shared → Prop} {s : Shared}
theorem rawLen (d : Addr) (hd : (d == sysModules) = false) : MeetsIn P w (Builtin.«dict.__len__» ⟨[.ref d], []⟩) (fun _ R s =>
    ∃ (o : Obj) (es : Array DictEntry) (ep : Nat), s.heap.get? d = some o ∧ o.data = .dict es ep ∧ R (.ok (.ret (.int es.size s.toks))) { s with toks := s.toks + 1 }) :=
  .of_wp fun A R s ⟨o, es, ep, h1, h2, h⟩ => by
    show wpAny _ _ (dictSize d >>= _) _ _ s
    unfold dictSize
    exact wpAny_bind (wpAny_bind (wpAny_dictEntries h1 h2 (wpAny_pure (wpAny_bind
      (wpAny_pendingCount_other hd (wpAny_ret_mkInt (by rw [Nat.add_zero]; exact h)))))))
theorem callRawLen {d : Addr} {o : Obj} {es : Array DictEntry} {ep : Nat} {Q : Value → Shared → Prop} (hd : (d == sysModules) = false) (h1 : s.heap.get? d = some o) (hx : o.ExactDict) (h2 : o.data = .dict es ep) (hf : (es.size : Int) < 2 ^ 63)
    (h : Q (.int es.size (s.toks + 1)) { s with toks := s.toks + 1 + 1 }) : wpAny (model P w) A (call (.builtin "len") [.ref d]) Q E s := by
  refine Calls.call_function_entry kind_len plain_len entry_len (args_len1 _) ?_
  unfold Builtin.«len»
  refine wpAny_bind (m := oneArg "len" _) (wpAny_pure (wpAny_bind (m := callSpecial? (.ref d) (Str.ofString "__len__")) ?_))
  refine wpAny_callSpecial?_slot (name := Str.ofString "__len__") ⟨o, h1, hx.1⟩ F.slot_dict_len ?_
  refine call_meetsIn F.slot_dict_len ⟨o, h1, hx.1⟩ F.entry_dict_len (F.args_dict_len_1 _) (rawLen d hd) ⟨o, es, ep, h1, h2, ?_⟩
  show wpAny _ _ _ _ _ { s with toks := s.toks + 1 }
  refine wpAny_bind (wpAny_holding (wpAny_pure (wpAny_bind (wpAny_letGo ?_))))
  show wpAny _ _ (if ((es.size : Nat) : Int) < 0 then _ else _) _ _ _
  rw [if_neg (show ¬ ((es.size : Nat) : Int) < 0 by omega)]
  show wpAny _ _ (if ((es.size : Nat) : Int) ≥ 2 ^ 63 then _ else _) _ _ _
  rw [if_neg (show ¬ ((es.size : Nat) : Int) ≥ 2 ^ 63 by omega)]
  exact wpAny_bind (wpAny_mkInt (wpAny_pure ⟨_, rfl, h⟩))
end
section
variable {R : Rn} {σ : St} {e : Env} {H : Hp} {Ls : Nat → List Addr} {F : List Addr} {X : Cx} {sub : Nat → List Nat}
theorem Paired.len {α β : Type} {f : α → β → Prop} {l : List α} {m : List β} (h : Paired f l m) : l.length = m.length := Paired.length h
def rLenD : List V → Hp → VK → Prop := fun xs H Q => ∃ (w : World) (a : Addr) (es : List (NestedKey × V × V)) (ep : Nat), xs = [.ref a] ∧ H a = some (DicO w a es ep) ∧ Q (.int es.length) H
theorem cr_lenD : CallR X (.builtin "len") rLenD := by
  intro pins s σ H xs us Q I r h
  obtain ⟨w, a, es, ep, rfl, ha, q⟩ := h
  obtain ⟨u, rfl, ru⟩ := vals1 r
  obtain rfl : u = .ref a := ru
  obtain ⟨⟨o, des, h1, h2, h3, h4, h5, h6, h7⟩, _⟩ := I.hok a _ ha
  have hl : es.length = des.size := by rw [Paired.len h7]; simp
  have hz := sizeLine_eq
  refine callRawLen h4 h1 h2 h3 (by omega) ⟨.int es.length, H, I.tok _, ⟨_, by rw [hl]⟩, q⟩
def rLenG (K : PySem.W.Frag) : List V → Hp → VK → Prop := fun xs H Q => rLenA K xs H Q ∨ rLenD xs H Q
theorem cr_lenG : CallR X (.builtin "len") (rLenG X.K) := cr_len.or cr_lenD
theorem at_lenG {vs : List V} {Q : VK} (h : At R σ e H Ls F sub .len vs Q) : rLenG X.K vs H Q := by
  rcases at_len (X := X) h with h | ⟨l, a, es, ep, rfl, ha, hl, q⟩
  · exact .inl h
  · exact .inr ⟨R.w, a, es, ep, rfl, ha, by rw [hl]; exact q⟩
/-- list(d) -/
def rListD : List V → Hp → VK → Prop := fun xs H Q => ∃ (w : World) (a : Addr) (es : List (NestedKey × V × V)) (ep : Nat), xs = [.ref a] ∧ H a = some (DicO w a es ep) ∧ ∀ l, H l = none → Q (.ref l) (upd H l (.lst (es.map fun p => p.2.1)))
theorem paired_get {α β : Type} {f : α → β → Prop} : ∀ {l : List α} {m : List β}, Paired f l m → ∀ {i : Nat} {x : α}, l[i]? = some x → ∃ y, m[i]? = some y ∧ f x y
  | _, _, .nil, i, x, h => by simp at h
  | _, _, .cons a b, 0, x, h => by simp at h; subst h; exact ⟨_, rfl, a⟩
  | _, _, .cons a b, i + 1, x, h => by
    obtain ⟨y, h1, h2⟩ := paired_get b (show _ = _ by simpa using h)
    exact ⟨y, by simpa using h1, h2⟩
theorem vals_of {us : List Value} {xs : List V} (hl : us.length = xs.length) (h : ∀ (i : Nat) (x : V), xs[i]? = some x → ∃ u, us[i]? = some u ∧ RelV x u) : Vals xs us := by
  induction xs generalizing us with
  | nil => cases us with
    | nil => exact .nil
    | cons u us => simp at hl
  | cons x xs ih => cases us with
    | nil => simp at hl
    | cons u us =>
      obtain ⟨u', h1, h2⟩ := h 0 x rfl
      simp at h1
      subst h1
      exact .cons h2 (ih (by simpa using hl) fun i y hy => by
        obtain ⟨u, h1, h2⟩ := h (i + 1) y (by simpa using hy)
        exact ⟨u, by simpa using h1, h2⟩)
theorem cr_listD (C : Cok X) : CallR X (.type "list") rListD := by
  intro pins s σ H xs us Q I r h
  obtain ⟨w, a, es, ep, rfl, ha, q⟩ := h
  obtain ⟨u, rfl, ru⟩ := vals1 r
  obtain rfl : u = .ref a := ru
  obtain ⟨⟨o, des, h1, h2, h3, h4, h5, h6, h7⟩, _⟩ := I.hok a _ ha
  have hl : es.length = des.size := by rw [Paired.len h7]; simp
  refine PySem.W.kdl_call (kdl_raw h4 h2 h3) (I.ok.hd C.calm) h1 (by omega) fun h' tk acc' c' kp e it => ?_
  have hal : acc'.toList.length = (es.map fun p => p.2.1).length := by rw [Array.length_toList, it.1, List.length_map]; exact hl.symm
  have rv : Vals (es.map fun p => p.2.1) acc'.toList := vals_of hal fun i x hx => by
    rw [List.getElem?_map, Option.map_eq_some_iff] at hx
    obtain ⟨p, hp, rfl⟩ := hx
    obtain ⟨en, hen, r1, r2, r3⟩ := paired_get h7 hp
    have hi : i < acc'.toList.length := by rw [hal, List.length_map]; exact (List.getElem?_eq_some_iff.mp hp).1
    refine ⟨acc'.toList[i], List.getElem?_eq_getElem hi, ?_⟩
    obtain ⟨en', hen', hv⟩ := it.2 i _ (by rw [← Array.getElem?_toList]; exact List.getElem?_eq_getElem hi)
    rw [← Array.getElem?_toList, hen] at hen'
    cases hen'
    rw [hv]
    exact r1
  have hz : (es.map fun p => p.2.1).length ≤ sizeLine := by rw [List.length_map]; exact h5
  refine ⟨.ref s.heap.objs.size, _, I.laid (t' := tk) (o := .lst (es.map fun p => p.2.1)) kp (Nat.le_refl _) ?_, rfl, q _ (I.hok.fresh (Nat.le_refl _))⟩
  exact ⟨hz, acc'.toList, c', rv, by rw [Array.toArray_toList]; exact e⟩
theorem RepK.keys {B : Addr → Prop} : ∀ {n : Nat} {l : List (D × D)} {es : List (NestedKey × V × V)} {L : List Addr}, RepK R H B n l es L → Reps R H B 0 (l.map (·.1)) (es.map fun p => p.2.1) []
  | _, [], es, L, h => by
    simp only [RepK] at h
    rw [h.1]
    exact .nil
  | n, (k, d) :: r, es, L, h => by
    simp only [RepK] at h
    obtain ⟨nk, kv, v, es', L1, L2, rfl, rfl, hk, h0, h1, h2⟩ := h
    exact .cons h0 (RepK.keys h2)
def rListG (K : PySem.W.Frag) : List V → Hp → VK → Prop := fun xs H Q => rListA K xs H Q ∨ rListD xs H Q
theorem cr_listG (C : Cok X) : CallR X (.type "list") (rListG X.K) := call_list_of.or (cr_listD C)
theorem at_listG {vs : List V} {Q : VK} (h : At R σ e H Ls F sub .list vs Q) : rListG X.K vs H Q := by
  rcases at_list (X := X) h with h | ⟨l, a, es, ep, rfl, ha, hr, k, g⟩
  · exact .inl h
  · exact .inr ⟨R.w, a, es, ep, rfl, ha, k.newL g hr.keys⟩
end
end G

set_option maxHeartbeats 1000000
/-! G.Snd3: built-in functions, subscripts, slices, displays, and, or, not, chains. -/
namespace G
open PySem L2 PyProof.Rows
section
variable {g : Cg} {X : Cx} {R : Rn} {W : WD} {σ : St} {e : Env} {H : Hp} {Ls : Nat → List Addr} {F : List Addr} {sub : Nat → List Nat}

/-! ### built-in functions -/
theorem bN_run {xs : Es} {o : B} {r : List V → Hp → VK → Prop} {Q : VK} (hat : ∀ {e H Ls F vs Q}, At g.R σ e H Ls F g.sub o vs Q → r vs H Q) (h : tV g.R g.W (ev g.sub g.F (.b o xs)).val σ H Q) :
    tCB r (tA g.R g.W (evPs g.sub g.F xs)) σ H Q := tA_mono (op_run h) fun vs H ⟨_, _, _, z⟩ => hat z
section
variable {a : Expr} {as : List Expr} {xs : Es} {y : E} {p pos : Pos}
theorem je_callB {x : Str} {id : String} {o : B} {r : List V → Hp → VK → Prop} (hc : CallR X (.builtin id) r) (hat : ∀ {e H Ls F vs Q} {σ : St}, At g.R σ e H Ls F g.sub o vs Q → r vs H Q) (hg : Gl X x) (hm : X.mg x = none) (hv : bootBuiltins x = some (.builtin id)) (ha : JA g X (a :: as) xs)
    (hn : x ≠ "__name__") (hdb : (x == ("__debug__" : Str)) = false) (he : starEach (a :: as) X.env = (false, eval a X.env) :: starEach as X.env) (hpl : (backTo pos (starEach as X.env)).any (·.1) = false) : JE g X (.Call (.Name x p) (a :: as) [] pos) (.b o xs) :=
  .of ((pe_callB hc hg hm hv ha hn hdb he hpl).imp fun σ H Q z => bN_run hat z) (fun _ => rfl) rfl fun _ => rfl
theorem je_callTy {x : Str} {id : String} {o : B} {r : List V → Hp → VK → Prop} (hc : CallR X (.type id) r) (hat : ∀ {e H Ls F vs Q} {σ : St}, At g.R σ e H Ls F g.sub o vs Q → r vs H Q) (hg : Gl X x) (hm : X.mg x = none) (hv : bootBuiltins x = some (.type id)) (ha : JA g X (a :: as) xs)
    (hn : x ≠ "__name__") (hdb : (x == ("__debug__" : Str)) = false) (he : starEach (a :: as) X.env = (false, eval a X.env) :: starEach as X.env) (hpl : (backTo pos (starEach as X.env)).any (·.1) = false) : JE g X (.Call (.Name x p) (a :: as) [] pos) (.b o xs) :=
  .of ((pe_callTy hc hg hm hv ha hn hdb he hpl).imp fun σ H Q z => bN_run hat z) (fun _ => rfl) rfl fun _ => rfl
/-- what a call's text asks -/
structure Pl1 (X : Cx) (pos : Pos) (a : Expr) (as : List Expr) : Prop where
  he : starEach (a :: as) X.env = (false, eval a X.env) :: starEach as X.env := by rfl
  hpl : (backTo pos (starEach as X.env)).any (·.1) = false := by rfl
theorem je_len (hg : Gl X "len") (hm : X.mg "len" = none) (ha : JA g X [a] xs) (z : Pl1 X pos a [] := by exact {}) : JE g X (.Call (.Name "len" p) [a] [] pos) (.b .len xs) := je_callB cr_lenG at_lenG hg hm (by rfl) ha (by decide) (by decide) z.he z.hpl
theorem je_list (C : Cok X) (hg : Gl X "list") (hm : X.mg "list" = none) (ha : JA g X [a] xs) (z : Pl1 X pos a [] := by exact {}) : JE g X (.Call (.Name "list" p) [a] [] pos) (.b .list xs) := je_callTy (cr_listG C) at_listG hg hm (by rfl) ha (by decide) (by decide) z.he z.hpl
theorem je_tuple (hg : Gl X "tuple") (hm : X.mg "tuple" = none) (ha : JA g X [a] xs) (z : Pl1 X pos a [] := by exact {}) : JE g X (.Call (.Name "tuple" p) [a] [] pos) (.b .tuple xs) := je_callTy call_tuple_of at_tuple hg hm (by rfl) ha (by decide) (by decide) z.he z.hpl
theorem je_abs (hg : Gl X "abs") (hm : X.mg "abs" = none) (ha : JA g X [a] xs) (z : Pl1 X pos a [] := by exact {}) : JE g X (.Call (.Name "abs" p) [a] [] pos) (.b .abs xs) := je_callB call_abs at_abs hg hm (by rfl) ha (by decide) (by decide) z.he z.hpl
theorem je_intc (hg : Gl X "int") (hm : X.mg "int" = none) (ha : JA g X [a] xs) (z : Pl1 X pos a [] := by exact {}) : JE g X (.Call (.Name "int" p) [a] [] pos) (.b .int xs) := je_callTy call_int1 at_int hg hm (by rfl) ha (by decide) (by decide) z.he z.hpl
theorem je_sum (C : Cok X) (hg : Gl X "sum") (hm : X.mg "sum" = none) (ha : JA g X [a] xs) (z : Pl1 X pos a [] := by exact {}) : JE g X (.Call (.Name "sum" p) [a] [] pos) (.b .sum xs) := je_callB (cr_sum C.calm) at_sum hg hm (by rfl) ha (by decide) (by decide) z.he z.hpl
theorem je_any (C : Cok X) (hg : Gl X "any") (hm : X.mg "any" = none) (ha : JA g X [a] xs) (z : Pl1 X pos a [] := by exact {}) : JE g X (.Call (.Name "any" p) [a] [] pos) (.b .any xs) := je_callB (cr_any C.calm) at_any hg hm (by rfl) ha (by decide) (by decide) z.he z.hpl
theorem je_all (C : Cok X) (hg : Gl X "all") (hm : X.mg "all" = none) (ha : JA g X [a] xs) (z : Pl1 X pos a [] := by exact {}) : JE g X (.Call (.Name "all" p) [a] [] pos) (.b .all xs) := je_callB (cr_all C.calm) at_all hg hm (by rfl) ha (by decide) (by decide) z.he z.hpl
theorem je_maxL (C : Cok X) (hg : Gl X "max") (hm : X.mg "max" = none) (ha : JA g X [a] xs) (z : Pl1 X pos a [] := by exact {}) : JE g X (.Call (.Name "max" p) [a] [] pos) (.b .maxL xs) := je_callB (cr_max C.calm) at_maxL hg hm (by rfl) ha (by decide) (by decide) z.he z.hpl
theorem je_minL (C : Cok X) (hg : Gl X "min") (hm : X.mg "min" = none) (ha : JA g X [a] xs) (z : Pl1 X pos a [] := by exact {}) : JE g X (.Call (.Name "min" p) [a] [] pos) (.b .minL xs) := je_callB (cr_min C.calm) at_minL hg hm (by rfl) ha (by decide) (by decide) z.he z.hpl
theorem je_max2 {b : Expr} (C : Cok X) (hg : Gl X "max") (hm : X.mg "max" = none) (ha : JA g X [a, b] xs) (z : Pl1 X pos a [b] := by exact {}) : JE g X (.Call (.Name "max" p) [a, b] [] pos) (.b .max2 xs) := je_callB (call_max2 C.calm) at_max2 hg hm (by rfl) ha (by decide) (by decide) z.he z.hpl
theorem je_min2 {b : Expr} (C : Cok X) (hg : Gl X "min") (hm : X.mg "min" = none) (ha : JA g X [a, b] xs) (z : Pl1 X pos a [b] := by exact {}) : JE g X (.Call (.Name "min" p) [a, b] [] pos) (.b .min2 xs) := je_callB (call_min2 C.calm) at_min2 hg hm (by rfl) ha (by decide) (by decide) z.he z.hpl
end

/-! ### subscripts, slices -/
theorem je_idx {a b : Expr} {x y : E} {pos : Pos} (ha : JE g X a x) (hb : JE g X b y) (hs : PlainIx b := by exact fun _ _ => rfl) : JE g X (.Subscript a b pos) (.b .idx (.cons x (.cons y .nil))) :=
  .of ((pe_ix ix_seq ha.plc hb.plc hs).imp fun σ H Q z => b2_run at_idx z) (fun _ => rfl) rfl fun _ => rfl
theorem je_slc_tf {a b : Expr} {x y : E} {p pos : Pos} (ha : JE g X a x) (hb : JE g X b y) : JE g X (.Subscript a (.Slice (some b) none none p) pos) (.b (.slc true false) (.cons x (.cons y .nil))) :=
  .of ((pe_slice sl_g ha.plc (po_some hb.plc) po_none).imp fun σ H Q z => by
    have z2 : tOp (fun u v H' Q => ∃ i, v = .int i ∧ rSlG X.K u (some i) none H' Q) _ _ σ H Q := b2_run at_slc_tf z
    exact z2) (fun _ => rfl) rfl fun _ => rfl
theorem je_slc_ft {a b : Expr} {x y : E} {p pos : Pos} (ha : JE g X a x) (hb : JE g X b y) : JE g X (.Subscript a (.Slice none (some b) none p) pos) (.b (.slc false true) (.cons x (.cons y .nil))) :=
  .of ((pe_slice sl_g ha.plc po_none (po_some hb.plc)).imp fun σ H Q z => by
    have z2 : tOp (fun u v H' Q => ∃ i, v = .int i ∧ rSlG X.K u none (some i) H' Q) _ _ σ H Q := b2_run at_slc_ft z
    exact z2) (fun _ => rfl) rfl fun _ => rfl

/-! ### places in a row, one by one -/
theorem PReps.snoc {B : Addr → Prop} {p : Pl} {v : V} {L2 : List Addr} (hp : PRep R H B σ p v L2) : ∀ {ps : List Pl} {vs : List V} {L : List Addr}, PReps R H B σ ps vs L → PReps R H B σ (ps ++ [p]) (vs ++ [v]) (L ++ L2)
  | [], _, _, h => by
    obtain ⟨rfl, rfl⟩ := h
    exact ⟨v, [], L2, [], rfl, by simp, hp, rfl, rfl⟩
  | q :: ps, _, _, h => by
    obtain ⟨u, vs', L1, L3, rfl, rfl, h1, h2⟩ := h
    exact ⟨u, vs' ++ [v], L1, L3 ++ L2, rfl, by simp, h1, PReps.snoc hp h2⟩
/-- a place, then what is behind it -/
theorem tP_step {β : Type} {m : M Pl} {f : Pl → M β} {P : Rs β → Prop} {H0 : Hp} {B0 : Addr → Prop} {L1 : List Addr} {vs : List V} {ps : List Pl} {Q : VK} (G : Good R σ e H Ls (L1 ++ F)) (st : Step H0 B0 H (Bn R Ls (L1 ++ F)) F) (pr : PReps R H (Bn R Ls (L1 ++ F)) σ ps vs L1) (h : (mb m f e).All P)
    (he : ∀ x e', P (.err x e') → ErrK R W σ H0 B0 F x e') (hn : ¬ P .no)
    (k : ∀ p e' v H' Ls' L', (f p e').All P → Good R σ e' H' Ls' (L' ++ F) → Step H0 B0 H' (Bn R Ls' (L' ++ F)) F → PReps R H' (Bn R Ls' (L' ++ F)) σ (ps ++ [p]) (vs ++ [v]) L' → Q v H') : tP R W m σ H Q := by
  refine tP_then G h (fun x e' z => (he x e' z).by st) hn fun p e1 v H1 Ls1 L2 h1 s1 g1 p1 => ?_
  obtain ⟨g3, hb⟩ := g1.two
  refine k p e1 v H1 Ls1 (L1 ++ L2) h1 g3 (st.two s1 hb) (PReps.snoc (PRep.by (Step.of_iff (F := []) hb) (fun _ _ => rfl) p1) ?_)
  exact PReps.by (Step.of_iff (F := []) hb) (fun _ _ => rfl) (PReps.by s1 (fun a z => s1.frm a (List.mem_append_left _ z)) pr)
theorem isI_int {d : D} (h : isI d = true) : ∃ i, d = .int i := by
  cases d <;> first | exact ⟨_, rfl⟩ | cases h
theorem sl_run {X : Cx} {pa pb pc : M Pl} {Q : VK} (h : tV R W (mb pa fun x => mb pb fun y => mb (rdP y) fun r => tst (isI r.2) (mb pc fun z => bopE sub (.slc true true) [x, y, z])) σ H Q) :
    tSl (rSlG X.K) (tP R W pa) (tPart (tP R W pb)) (tPart (tP R W pc)) σ H Q := by
  obtain ⟨e, Ls, F, G, h⟩ := h
  refine tP_step (L1 := []) (vs := []) (ps := []) G .refl ⟨rfl, rfl⟩ h (fun _ _ z => z) no_V fun p e1 v H1 Ls1 L1 h1 g1 s1 p1 => ?_
  refine tP_step g1 s1 p1 h1 (fun _ _ z => z) no_V fun q e2 u H2 Ls2 L2 h2 g2 s2 p2 => ?_
  obtain ⟨v', vs', _, _, e0, _, _, y1⟩ := id p2
  cases e0
  obtain ⟨u', vs'', L3, _, e0, _, y2, _⟩ := y1
  cases e0
  obtain ⟨r, L, h3, rr⟩ := rdP_all g2 y2 (all_mb.mp h2) no_V
  have h3 : (tst (isI r.2) (mb pc fun z => bopE sub (.slc true true) [p, q, z]) e2).All (PostV R W σ H (Bn R Ls F) F Q) := h3
  obtain ⟨hi, h4⟩ := tst_all h3 no_V
  obtain ⟨i, hi⟩ := isI_int hi
  rw [hi] at rr
  refine ⟨i, rr.int, ?_⟩
  refine tP_step g2 s2 p2 h4 (fun _ _ z => z) no_V fun q' e3 w H3 Ls3 L3 h5 g3 s3 p3 => ?_
  obtain ⟨a, b, e1, e2, z⟩ := at_slc_tt (X := X) ⟨bop_run g3 p3 s3 h5, g3⟩
  rw [rr.int] at e1
  cases e1
  exact ⟨b, e2, z⟩
theorem je_slc_tt {a b c : Expr} {x y w : E} {p pos : Pos} (ha : JE g X a x) (hb : JE g X b y) (hc : JE g X c w) : JE g X (.Subscript a (.Slice (some b) (some c) none p) pos) (.sl x y w) :=
  .of ((pe_slice sl_g ha.plc (po_some hb.plc) (po_some hc.plc)).imp fun σ H Q z => sl_run z) (fun _ => rfl) rfl fun _ => rfl
/-- a chain of two comparisons -/
theorem ch_run {pa pb pc : M Pl} {o o' : B} {r r' : R2} {Q : VK} (hr : BoolR r) (hat : ∀ {e H Ls F x y Q} {σ : St}, At R σ e H Ls F sub o [x, y] Q → r x y H Q) (hat' : ∀ {e H Ls F x y Q} {σ : St}, At R σ e H Ls F sub o' [x, y] Q → r' x y H Q)
    (h : tV R W (mb pa fun x => mb pb fun y => mb (bopE sub o [x, y]) fun r => mb (truthE r) fun t => if t = true then mb pc fun z => bopE sub o' [y, z] else pu r) σ H Q) : tChain r r' (tP R W pa) (tP R W pb) (tP R W pc) σ H Q := by
  obtain ⟨e, Ls, F, G, h⟩ := h
  refine tP_step (L1 := []) (vs := []) (ps := []) G .refl ⟨rfl, rfl⟩ h (fun _ _ z => z) no_V fun p e1 v H1 Ls1 L1 h1 g1 s1 p1 => ?_
  refine tP_step g1 s1 p1 h1 (fun _ _ z => z) no_V fun q e2 u H2 Ls2 L2 h2 g2 s2 p2 => ?_
  obtain ⟨l, d, rr, hk, hd, h3⟩ := bop_all g2 p2 h2 no_V
  refine hr v u H2 (fun z H3 => ∀ k, z = .bl k → if k = true then tP R W pc σ H3 fun w' H4 => r' u w' H4 Q else Q (.bl false) H3) _ (fun b H q => ⟨b, rfl, q b rfl⟩) (hat ⟨⟨l, d, rr, hk, hd, fun v' H3 L3 s3 g3 rp k ek => ?_⟩, g2⟩)
  subst ek
  have ed := rep_bl rp
  subst ed
  have eL : L3 = [] := by simp only [Rep] at rp; exact rp.2
  subst eL
  have h4 : ((if k = true then mb pc fun z => bopE sub o' [q, z] else pu (bopN o (.bl k), .bl k)) e2).All (PostV R W σ H (Bn R Ls F) F Q) := h3
  have s4 : Step H (Bn R Ls F) H3 (Bn R Ls2 (L2 ++ F)) F := s2.trans s3 fun a z => List.mem_append_right _ z
  cases k with
  | true =>
    have p3 := PReps.by s3 (fun a z => s3.frm a (List.mem_append_left _ z)) p2
    refine tP_step (L1 := L2) (F := F) g3 s4 p3 h4 (fun _ _ z => z) no_V fun q' e3 w H4 Ls4 L4 h5 g4 s5 p4 => ?_
    obtain ⟨v', vs', _, L5, e0, _, _, y1⟩ := id p4
    cases e0
    exact hat' ⟨bop_run (Lt2 := L5) g4 y1 s5 h5, g4⟩
  | false =>
    obtain ⟨g5, s5, _⟩ := g3.letgo (Lt := L2) s4
    exact h4 (.bl false) H3 Ls2 [] s5 g5 (by simp [Rep])
section
variable {a b c : Expr} {x y w : E} {pos : Pos}
theorem je_chain {o o' : B} {op op' : CmpOp} {r r' : R2} (ho : OpR X (compareOp op) r) (ho' : OpR X (compareOp op') r') (hr : BoolR r) (hr' : BoolR r') (hat : ∀ {e H Ls F x y Q} {σ : St}, At g.R σ e H Ls F g.sub o [x, y] Q → r x y H Q) (hat' : ∀ {e H Ls F x y Q} {σ : St}, At g.R σ e H Ls F g.sub o' [x, y] Q → r' x y H Q)
    (ha : JE g X a x) (hb : JE g X b y) (hc : JE g X c w) (hm : lastMarks [op, op'] [b, c] = false) : JE g X (.Compare a [op, op'] [b, c] pos) (.ch o o' x y w) := by
  have hv : PE X (.Compare a [op, op'] [b, c] pos) (tV g.R g.W (ev g.sub g.F (.ch o o' x y w)).val) := (pe_chain ho ho' ha.plc hb.plc hc.plc hm).imp fun σ H Q z => ch_run hr hat hat' z
  refine ⟨hv, hv.imp fun σ H Q z => tP_of_tV z, (pt_chain ho ho' ha.plc hb.plc hc.plc hm).imp fun σ H Q z => ?_⟩
  have z1 := ch_run hr hat hat' (tP_of_tV (tru_run z))
  refine tP_mono z1 fun x H1 z => tP_mono z fun y H2 z => hr x y H2 _ _ (fun b H q => ?_) z
  obtain ⟨k, ek, q⟩ := q
  cases ek
  refine ⟨b, rfl, ?_⟩
  cases b with
  | true => exact tP_mono q fun w H4 z => hr' y w H4 _ _ (fun b H q => ⟨b, rfl, tru_bl q⟩) z
  | false => exact ⟨false, rfl, tru_bl q⟩
theorem je_le_lt (ha : JE g X a x) (hb : JE g X b y) (hc : JE g X c w) (hm : lastMarks [.LtE, .Lt] [b, c] = false := by with_unfolding_all rfl) : JE g X (.Compare a [.LtE, .Lt] [b, c] pos) (.ch .le .lt x y w) := je_chain op_le op_lt br_I br_I at_le at_lt ha hb hc hm
theorem je_le_le (ha : JE g X a x) (hb : JE g X b y) (hc : JE g X c w) (hm : lastMarks [.LtE, .LtE] [b, c] = false := by with_unfolding_all rfl) : JE g X (.Compare a [.LtE, .LtE] [b, c] pos) (.ch .le .le x y w) := je_chain op_le op_le br_I br_I at_le at_le ha hb hc hm
theorem je_lt_lt (ha : JE g X a x) (hb : JE g X b y) (hc : JE g X c w) (hm : lastMarks [.Lt, .Lt] [b, c] = false := by with_unfolding_all rfl) : JE g X (.Compare a [.Lt, .Lt] [b, c] pos) (.ch .lt .lt x y w) := je_chain op_lt op_lt br_I br_I at_lt at_lt ha hb hc hm
theorem je_lt_le (ha : JE g X a x) (hb : JE g X b y) (hc : JE g X c w) (hm : lastMarks [.Lt, .LtE] [b, c] = false := by with_unfolding_all rfl) : JE g X (.Compare a [.Lt, .LtE] [b, c] pos) (.ch .lt .le x y w) := je_chain op_lt op_le br_I br_I at_lt at_le ha hb hc hm
end
end
end G

set_option maxHeartbeats 1000000
/-! G.Snd4: displays, and, or, not, if-else, isinstance, repr, in, is None. -/
namespace G
open PySem L2 PyProof.Rows
section
variable {g : Cg} {X : Cx} {R : Rn} {W : WD} {σ : St} {e : Env} {H : Hp} {Ls : Nat → List Addr} {F : List Addr} {sub : Nat → List Nat}

/-! ### displays -/
/-- the places' data, given away: what is wanted of a new value of them -/
theorem disp_run {ma : M (List Pl)} {f : List (Nat × D) → M (Nat × D)} {Q : VK} {T : List V → Hp → Prop} (h : tV R W (mb ma fun ps => mb (vlPs ps) f) σ H Q)
    (k : ∀ (l : List (Nat × D)) (e' : Env) (vs : List V) (H' : Hp) (Ls' : Nat → List Addr) (F : List Addr), (∀ n d, (f l e').All (fun r => r = .ok (n, d) e') → QK R σ e' H' Ls' F n d Q) → (¬ (f l e').All fun r => r = .no) → Good R σ e' H' Ls' F → Reps R H' (Bn R Ls' F) 0 (l.map (·.2)) vs [] → T vs H') : True := trivial
theorem vl_run {ma : M (List Pl)} {f : List (Nat × D) → M (Nat × D)} {Q : VK} {T : List V → Hp → Prop} (h : tV R W (mb ma fun ps => mb (vlPs ps) f) σ H Q)
    (k : ∀ (l : List (Nat × D)) (e' : Env) (vs : List V) (H' H0 : Hp) (B0 : Addr → Prop) (Ls' : Nat → List Addr) (F : List Addr), (f l e').All (PostV R W σ H0 B0 F Q) → Step H0 B0 H' (Bn R Ls' F) F → Good R σ e' H' Ls' F → Reps R H' (Bn R Ls' F) 0 (l.map (·.2)) vs [] → T vs H') : tA R W ma σ H T := by
  obtain ⟨e, Ls, F, G, h⟩ := h
  refine tA_then G h (fun _ _ z => z) no_V fun ps e1 vs H1 Ls1 L1 h1 s1 g1 p1 => ?_
  obtain ⟨l, e2, Ls2, h2, g2, s2, r2⟩ := vlPs_all g1 p1 (all_mb.mp h1) no_V
  refine k l e2 vs H1 H (Bn R Ls F) Ls2 F h2 ⟨s1.ext, s1.frm, fun a z => ?_⟩ g2 r2
  rcases s2.bn a z with y | y
  · exact s1.bn a y
  · obtain ⟨o, q⟩ := g2.has a z
    rw [q] at y
    cases y
/-- what is wanted of an answer, from what is wanted behind it -/
theorem QK.of {H0 : Hp} {B0 : Addr → Prop} {n : Nat} {d : D} {Q : VK} (st : Step H0 B0 H (Bn R Ls F) F) (h : PostV R W σ H0 B0 F Q (.ok (n, d) e)) : QK R σ e H Ls F n d Q := fun v' H' Lt' s g rp => h v' H' Ls Lt' (st.trans s fun a z => z) g rp
theorem sz1000 {n : Nat} (h : decide (n ≤ 1000) = true) : n ≤ sizeLine := by
  have := of_decide_eq_true h
  rw [sizeLine_eq]
  omega
theorem je_tup {as : List Expr} {xs : Es} {k : Nat} {pos : Pos} (ha : JA g X as xs) : JE g X (.Tuple as k pos) (.tup xs) :=
  .of (PE.imp (pe_tup (x1 := k) ha) fun σ H Q z => vl_run z fun l e' vs H' H0 B0 Ls' F h st g rp => by
    obtain ⟨hz, h⟩ := tst_all h no_V
    exact ⟨by rw [rp.length, List.length_map]; exact sz1000 hz, (QK.of st h).newT g rp⟩) (fun _ => rfl) rfl fun _ => rfl
theorem je_lst {as : List Expr} {xs : Es} {pos : Pos} (ha : JA g X as xs) : JE g X (.List as pos) (.lst xs) :=
  .of (PE.imp (pe_lst ha) fun σ H Q z => vl_run z fun l e' vs H' H0 B0 Ls' F h st g rp => by
    obtain ⟨hz, h⟩ := tst_all h no_V
    exact ⟨by rw [rp.length, List.length_map]; exact sz1000 hz, (QK.of st h).newL g rp⟩) (fun _ => rfl) rfl fun _ => rfl
/-- {} -/
theorem dicO_new {P : Program} {w w' : World} {H : Hp} (h : Heap) (hb : sysModules < h.objs.size) : ObjOk P w' H (h.push { cls := .type "dict", data := .dict #[] }) h.objs.size (DicO w h.objs.size [] 0) :=
  ⟨⟨_, #[], Heap.get?_push_size _ rfl, ⟨rfl, rfl, rfl⟩, rfl, beq_eq_false_iff_ne.mpr (Ne.symm (Nat.ne_of_lt hb)), Nat.zero_le _, List.nodup_nil, .nil⟩, ⟨_, Heap.get?_push_size _ rfl⟩,
    fun h1 h2 ⟨o, des, a, b, c, d⟩ k => ⟨o, des, k _ a, b, c, d⟩⟩
theorem pe_d0 {w : World} {pos : Pos} : PE X (.Dict [] [] pos) fun _ H Q => ∀ p, H p = none → Q (.ref p) (upd H p (DicO w p [] 0)) := ⟨fun pins s σ H Q I h =>
  wpAny_Dict_empty ⟨.ref s.heap.objs.size, _, I.laid (a := s.heap.objs.size) (o := DicO w s.heap.objs.size [] 0) (t' := s.toks) (fun _ _ q => Heap.get?_push_of_some _ q) (Nat.le_refl _) (dicO_new s.heap I.big), rfl, h _ (I.hok.fresh (Nat.le_refl _))⟩⟩
theorem Good.newO {a : Addr} {o : HO} (g : Good R σ e H Ls F) (hn : H a = none) : Good R σ e (upd H a o) Ls ([a] ++ F) ∧ Step H (Bn R Ls F) (upd H a o) (Bn R Ls ([a] ++ F)) F := by
  have ne : ∀ b, Bn R Ls F b → b ≠ a := fun b h z => by
    obtain ⟨ys, q⟩ := g.has b h
    rw [z, hn] at q
    cases q
  have st : Step H (Bn R Ls F) (upd H a o) (Bn R Ls ([a] ++ F)) F := by
    refine ⟨fun b u e _ => ?_, fun b h => upd_ne (ne b (.inl h)), fun b h => ?_⟩
    · rw [upd_ne fun z => by rw [z, hn] at e; cases e]; exact e
    · rcases h with h | h
      · rcases List.mem_append.mp h with h | h
        · rw [List.mem_singleton.mp h]; exact .inr hn
        · exact .inl (.inl h)
      · exact .inl (.inr h)
  refine ⟨g.step st (fun i b h => upd_ne (ne b (.inr (.inl ⟨i, h⟩)))) ?_ (by simp) (fun b h => ?_) (fun b h => ?_), st⟩
  · exact (g.newT (o := o) hn).1.rnd
  · rw [List.mem_singleton.mp h]; exact ⟨hn, _, upd_same⟩
  · obtain ⟨ys, q⟩ := g.has b (.inr (.inr h))
    exact ⟨ys, by rw [upd_ne (ne b (.inr (.inr h)))]; exact q⟩
theorem je_dd0 {pos : Pos} : JE g X (.Dict [] [] pos) (.dd .nil) :=
  .of ((pe_d0 (w := g.R.w)).imp fun σ H Q z p hp => by
    obtain ⟨e, Ls, F, G, h⟩ := z
    have h : PostV g.R g.W σ H (Bn g.R Ls F) F Q (.ok (1, .dct []) e) := h
    obtain ⟨g', s⟩ := G.newO (o := DicO g.R.w p [] 0) hp
    refine h (.ref p) _ Ls [p] s g' ?_
    simp only [Rep, RepK]
    exact ⟨p, [], 0, [], rfl, upd_same, rfl, rfl, rfl⟩) (fun _ => rfl) rfl fun _ => rfl

/-! ### not, and, or, if-else -/
theorem PostT.by {H0 : Hp} {B0 : Addr → Prop} {Q : Bool → Hp → Prop} (st : Step H0 B0 H (Bn R Ls F) F) {r : Rs Bool} (h : PostT R W σ H0 B0 F Q r) : PostT R W σ H (Bn R Ls F) F Q r := by
  cases r with
  | ok b e => exact fun H' Ls' s g => h H' Ls' (st.trans s fun a z => z) g
  | err x e => exact fun H' Ls' s g => h H' Ls' (st.trans s fun a z => z) g
  | no => exact h
theorem PostV.by {H0 : Hp} {B0 : Addr → Prop} {Q : VK} (st : Step H0 B0 H (Bn R Ls F) F) {r : Rs (Nat × D)} (h : PostV R W σ H0 B0 F Q r) : PostV R W σ H (Bn R Ls F) F Q r := by
  cases r with
  | ok b e => exact fun v H' Ls' Lt s g x => h v H' Ls' Lt (st.trans s fun a z => z) g x
  | err x e => exact fun H' Ls' s g => h H' Ls' (st.trans s fun a z => z) g
  | no => exact h
theorem pe_notG {a : Expr} {ta : TE} {pos : Pos} (ha : PE X a ta) : PE X (.UnaryOp .Not a pos) fun σ H Q => ta σ H fun x H1 => rTruG x H1 fun k H2 => Q (.bl (!k)) H2 := by
  refine ⟨fun pins s σ H Q I h => UnaryOp_ (thn (ha.run pins s σ H _ I h) fun v s1 ⟨x, H1, I1, r1, q1⟩ => ?_)⟩
  exact not_of (thn (tru_g pins s1 σ H1 x v _ I1 r1 q1) fun c s2 ⟨H2, I2, q2⟩ => ⟨.bl (!c), H2, I2, rfl, q2⟩)
theorem je_not {a : Expr} {x : E} {pos : Pos} (ha : JE g X a x) : JE g X (.UnaryOp .Not a pos) (.not x) := by
  have hv : PE X (.UnaryOp .Not a pos) (tV g.R g.W (ev g.sub g.F (.not x)).val) := (pe_notG ha.plc).imp fun σ H Q z => by
    obtain ⟨e, Ls, F, G, h⟩ := z
    refine tP_then G h (fun _ _ z => z) no_V fun p e' v H' Ls' Lt hr s g pr => ?_
    obtain ⟨r, L', h2, rr⟩ := rdP_all g pr (all_mb.mp hr) no_V
    obtain ⟨k, hk, h3⟩ := mb_op h2 no_V
    obtain ⟨g2, s2, _⟩ := g.letgo s
    exact ⟨_, _, r.1, r.2, L', k, rr, hk, h3 (.bl (!k)) H' Ls' [] s2 g2 (by simp [Rep])⟩
  refine ⟨hv, hv.imp fun σ H Q z => tP_of_tV z, (pt_not ha.tst).imp fun σ H Q z => ?_⟩
  obtain ⟨e, Ls, F, G, h⟩ := z
  exact tT_then G h (fun _ _ z => z) no_T fun b e' H' Ls' hr s g => hr H' Ls' s g
section
variable {a b : Expr} {rest : List Expr} {x y : E} {pos : Pos} {ta tb : TE}
theorem pe_andG (ha : PE X a ta) (hb : PE X (.BoolOp .And (b :: rest) pos) tb) : PE X (.BoolOp .And (a :: b :: rest) pos) fun σ H Q => ta σ H fun x H1 => rTruG x H1 fun k H2 => if k = true then tb σ H2 Q else Q x H2 := by
  refine ⟨fun pins s σ H Q I h => BoolOp_and (thn (ha.run pins s σ H _ I h) fun v s1 ⟨x, H1, I1, r1, q1⟩ => ?_)⟩
  refine thn (tru_g pins s1 σ H1 x v _ I1 r1 q1) fun c s2 ⟨H2, I2, q2⟩ => ?_
  cases c with
  | true => exact hb.run pins s2 σ H2 Q I2 q2
  | false => exact ⟨x, H2, I2, r1, q2⟩
theorem pe_orG (ha : PE X a ta) (hb : PE X (.BoolOp .Or (b :: rest) pos) tb) : PE X (.BoolOp .Or (a :: b :: rest) pos) fun σ H Q => ta σ H fun x H1 => rTruG x H1 fun k H2 => if k = true then Q x H2 else tb σ H2 Q := by
  refine ⟨fun pins s σ H Q I h => BoolOp_or (thn (ha.run pins s σ H _ I h) fun v s1 ⟨x, H1, I1, r1, q1⟩ => ?_)⟩
  refine thn (tru_g pins s1 σ H1 x v _ I1 r1 q1) fun c s2 ⟨H2, I2, q2⟩ => ?_
  cases c with
  | false => exact hb.run pins s2 σ H2 Q I2 q2
  | true => exact ⟨x, H2, I2, r1, q2⟩
theorem jb_and1 (ha : JE g X a x) : JB g X (.BoolOp .And [a] pos) x := ⟨pe_one ha.val, pw_and1 ha.tst⟩
theorem jb_or1 (ha : JE g X a x) : JB g X (.BoolOp .Or [a] pos) x := ⟨pe_one ha.val, pw_or1 ha.tst⟩
theorem jb_and (ha : JE g X a x) (hb : JB g X (.BoolOp .And (b :: rest) pos) y) : JB g X (.BoolOp .And (a :: b :: rest) pos) (.and x y) := by
  refine ⟨(pe_andG ha.val hb.val).imp fun σ H Q z => ?_, (pw_and ha.tst hb.tst).imp fun σ H Q z => ?_⟩
  · obtain ⟨e, Ls, F, G, h⟩ := z
    refine tV_then G h (fun _ _ z => z) no_V fun r e' v H' Ls' Lt hr s g rp => ?_
    obtain ⟨k, hk, h3⟩ := mb_op hr no_V
    refine ⟨_, _, r.1, r.2, Lt, k, rp, hk, ?_⟩
    cases k with
    | true =>
      obtain ⟨g2, s2, _⟩ := g.letgo s
      exact ⟨e', Ls', F, g2, Tr.All.mono h3 fun r z => PostV.by s2 z⟩
    | false => exact h3 v H' Ls' Lt s g rp
  · obtain ⟨e, Ls, F, G, h⟩ := z
    refine tT_then G h (fun _ _ z => z) no_T fun b e' H' Ls' hr s g => ?_
    cases b with
    | true => exact ⟨e', Ls', F, g, Tr.All.mono hr fun r z => PostT.by s z⟩
    | false => exact hr H' Ls' s g
theorem jb_or (ha : JE g X a x) (hb : JB g X (.BoolOp .Or (b :: rest) pos) y) : JB g X (.BoolOp .Or (a :: b :: rest) pos) (.or x y) := by
  refine ⟨(pe_orG ha.val hb.val).imp fun σ H Q z => ?_, (pw_or ha.tst hb.tst).imp fun σ H Q z => ?_⟩
  · obtain ⟨e, Ls, F, G, h⟩ := z
    refine tV_then G h (fun _ _ z => z) no_V fun r e' v H' Ls' Lt hr s g rp => ?_
    obtain ⟨k, hk, h3⟩ := mb_op hr no_V
    refine ⟨_, _, r.1, r.2, Lt, k, rp, hk, ?_⟩
    cases k with
    | false =>
      obtain ⟨g2, s2, _⟩ := g.letgo s
      exact ⟨e', Ls', F, g2, Tr.All.mono h3 fun r z => PostV.by s2 z⟩
    | true => exact h3 v H' Ls' Lt s g rp
  · obtain ⟨e, Ls, F, G, h⟩ := z
    refine tT_then G h (fun _ _ z => z) no_T fun b e' H' Ls' hr s g => ?_
    cases b with
    | false => exact ⟨e', Ls', F, g, Tr.All.mono hr fun r z => PostT.by s z⟩
    | true => exact hr H' Ls' s g
theorem je_and (h : JB g X a (.and x y)) : JE g X a (.and x y) := ⟨h.val, h.val.imp fun σ H Q z => tP_of_tV z, h.tst.pt⟩
theorem je_or (h : JB g X a (.or x y)) : JE g X a (.or x y) := ⟨h.val, h.val.imp fun σ H Q z => tP_of_tV z, h.tst.pt⟩
theorem pt_ifExp {c : Expr} {tc tA tB' : TT} (hc : PT X c tc) (ha : PT X a tA) (hb : PT X b tB') : PT X (.IfExp c a b pos) fun σ H Q => tc σ H fun k H1 => if k = true then tA σ H1 Q else tB' σ H1 Q := by
  refine ⟨fun pins s σ H Q I h => isTrue_IfExp (thn (hc.run pins s σ H _ I h) fun k s1 ⟨H1, I1, q1⟩ => ?_)⟩
  cases k with
  | true => exact ha.run pins s1 σ H1 Q I1 q1
  | false => exact hb.run pins s1 σ H1 Q I1 q1
theorem je_ite {c : Expr} {w : E} (hc : JE g X c w) (ha : JE g X a x) (hb : JE g X b y) : JE g X (.IfExp c a b pos) (.ite w x y) := by
  have hv : PE X (.IfExp c a b pos) (tV g.R g.W (ev g.sub g.F (.ite w x y)).val) := (pe_ifExp hc.tst ha.val hb.val).imp fun σ H Q z => by
    obtain ⟨e, Ls, F, G, h⟩ := z
    refine tT_then G h (fun _ _ z => z) no_V fun b e' H' Ls' hr s g => ?_
    cases b with
    | true => exact ⟨e', Ls', F, g, Tr.All.mono hr fun r z => PostV.by s z⟩
    | false => exact ⟨e', Ls', F, g, Tr.All.mono hr fun r z => PostV.by s z⟩
  refine ⟨hv, hv.imp fun σ H Q z => tP_of_tV z, (pt_ifExp hc.tst ha.tst hb.tst).imp fun σ H Q z => ?_⟩
  obtain ⟨e, Ls, F, G, h⟩ := z
  refine tT_then G h (fun _ _ z => z) no_T fun b e' H' Ls' hr s g => ?_
  cases b with
  | true => exact ⟨e', Ls', F, g, Tr.All.mono hr fun r z => PostT.by s z⟩
  | false => exact ⟨e', Ls', F, g, Tr.All.mono hr fun r z => PostT.by s z⟩

/-! ### one place -/
theorem b1_run {o : B} {r : V → Hp → VK → Prop} {Q : VK} (hat : ∀ {e H Ls F x Q}, At g.R σ e H Ls F g.sub o [x] Q → r x H Q) (h : tV g.R g.W (ev g.sub g.F (.b o (.cons x .nil))).val σ H Q) :
    tP g.R g.W (plOf x (ev g.sub g.F x).val) σ H fun v H1 => r v H1 Q := by
  have h1 := tA_mono (Q' := fun vs H' => ∀ x, vs = [x] → r x H' Q) (op_run (o := o) h) fun vs H' z x e => by
    obtain ⟨_, _, _, z⟩ := z
    subst e
    exact hat z
  exact tP_mono (tA_1 h1) fun x H1 z => z x rfl
theorem je_neg (ha : JE g X a x) : JE g X (.UnaryOp .USub a pos) (.b .neg (.cons x .nil)) := .of ((pe_un un_neg ha.plc).imp fun σ H Q z => b1_run at_neg z) (fun _ => rfl) rfl fun _ => rfl
theorem je_isN {j : Nat} {p : Pos} (ha : JE g X a x) : JE g X (.Compare a [.Is] [.Constant .none j p] pos) (.b .isN (.cons x .nil)) := by
  have hv : PE X (.Compare a [.Is] [.Constant .none j p] pos) (tV g.R g.W (ev g.sub g.F (.b .isN (.cons x .nil))).val) := (pe_cmp (pc_isN ha.plc)).imp fun σ H Q z => b1_run at_isN z
  refine ⟨hv, hv.imp fun σ H Q z => tP_of_tV z, (pt_cmp (pc_isN ha.plc)).imp fun σ H Q z => ?_⟩
  exact tP_mono (b1_run (r := fun x H Q => Q (.bl (decide (x = .non))) H) at_isN (tP_of_tV (tru_run z))) fun v H1 q => ⟨_, rfl, tru_bl q⟩
theorem je_notN {j : Nat} {p : Pos} (ha : JE g X a x) : JE g X (.Compare a [.IsNot] [.Constant .none j p] pos) (.b .notN (.cons x .nil)) := by
  have hv : PE X (.Compare a [.IsNot] [.Constant .none j p] pos) (tV g.R g.W (ev g.sub g.F (.b .notN (.cons x .nil))).val) := (pe_cmp (pc_notN ha.plc)).imp fun σ H Q z => b1_run at_notN z
  refine ⟨hv, hv.imp fun σ H Q z => tP_of_tV z, (pt_cmp (pc_notN ha.plc)).imp fun σ H Q z => ?_⟩
  exact tP_mono (b1_run (r := fun x H Q => Q (.bl (!decide (x = .non))) H) at_notN (tP_of_tV (tru_run z))) fun v H1 q => ⟨_, rfl, tru_bl q⟩
theorem je_in (C : Cok X) (ha : JE g X a x) (hb : JE g X b y) (hm : behindInMarks .In b = false := by with_unfolding_all rfl) : JE g X (.Compare a [.In] [b] pos) (.b .inn (.cons x (.cons y .nil))) := je_cmp (or_in C) br_in at_in ha hb hm
theorem je_nin (C : Cok X) (ha : JE g X a x) (hb : JE g X b y) (hm : behindInMarks .NotIn b = false := by with_unfolding_all rfl) : JE g X (.Compare a [.NotIn] [b] pos) (.b .nin (.cons x (.cons y .nil))) := je_cmp (or_nin C) br_in at_nin ha hb hm
/-! ### tuple(range(..)), list(range(..)) -/
theorem rgOk {n : Int} (h : 0 ≤ n ∧ n ≤ 10000) : RgOk 0 n := by
  obtain ⟨h1, h2⟩ := h
  exact ⟨by omega, by omega, by omega, by omega, by omega⟩
theorem je_tupR {p p1 pos1 : Pos} (C : Cok X) (hg : Gl X "tuple") (hm : X.mg "tuple" = none) (hg1 : Gl X "range") (hm1 : X.mg "range" = none) (ha : JE g X a x) (z1 : Pl1 X pos1 a [] := by exact {}) (z : Pl1 X pos (.Call (.Name "range" p1) [a] [] pos1) [] := by exact {}) :
    JE g X (.Call (.Name "tuple" p) [.Call (.Name "range" p1) [a] [] pos1] [] pos) (.b .tupR (.cons x .nil)) :=
  .of ((pe_tupRg C.calm hg hm (prg_1 hg1 hm1 ha.plc z1.he) z.he).imp fun σ H Q z => by
    refine tP_mono (b1_run at_tupR z) fun v H1 q => ?_
    obtain ⟨n, e, hn, q⟩ := q
    exact ⟨n, e, rgOk hn, q⟩) (fun _ => rfl) rfl fun _ => rfl
theorem je_listR {p p1 pos1 : Pos} (C : Cok X) (hg : Gl X "list") (hm : X.mg "list" = none) (hg1 : Gl X "range") (hm1 : X.mg "range" = none) (ha : JE g X a x) (z1 : Pl1 X pos1 a [] := by exact {}) (z : Pl1 X pos (.Call (.Name "range" p1) [a] [] pos1) [] := by exact {}) :
    JE g X (.Call (.Name "list" p) [.Call (.Name "range" p1) [a] [] pos1] [] pos) (.b .listR (.cons x .nil)) :=
  .of ((pe_listRg C.calm hg hm (prg_1 hg1 hm1 ha.plc z1.he) z.he).imp fun σ H Q z => by
    refine tP_mono (b1_run at_listR z) fun v H1 q => ?_
    obtain ⟨n, e, hn, q⟩ := q
    exact ⟨n, e, rgOk hn, q⟩) (fun _ => rfl) rfl fun _ => rfl
end
end
end G

set_option maxHeartbeats 1000000
/-! G.Snd5: statements; what a for walks; loops. -/
namespace G
open PySem L2 PyProof.Rows
section
variable (g : Cg) (X : Cx)
structure JS (a : Stmt) (s : S) : Prop where
  run : PS X a (tS g.R g.W (evS g.sub g.F s))
structure JSs (as : List Stmt) (ss : Ss) : Prop where
  run : PSs X as (tS g.R g.W (evSs g.sub g.F ss))
end
section
variable {g : Cg} {X : Cx} {R : Rn} {W : WD} {σ : St} {e : Env} {H : Hp} {Ls : Nat → List Addr} {F : List Addr} {sub : Nat → List Nat}
theorem no_S {H : Hp} {B : Addr → Prop} {F : List Addr} {D : Ends} : ¬ PostS R W H B F D .no := fun z => z
theorem err_S {H : Hp} {B : Addr → Prop} {F : List Addr} {D : Ends} {x : G.D} {e : Env} (h : PostS R W H B F D (.err x e)) : ErrK R W σ H B F x e := fun H' Ls' s g => h σ H' Ls' s g
theorem PostS.by {H0 : Hp} {B0 : Addr → Prop} {D : Ends} (st : Step H0 B0 H (Bn R Ls F) F) {r : Rs Fl} (h : PostS R W H0 B0 F D r) : PostS R W H (Bn R Ls F) F D r := by
  match r, h with
  | .ok .nx e, h => exact fun σ' H' Ls' s g => h σ' H' Ls' (st.trans s fun a z => z) g
  | .ok .bk e, h => exact fun σ' H' Ls' s g => h σ' H' Ls' (st.trans s fun a z => z) g
  | .ok .ct e, h => exact fun σ' H' Ls' s g => h σ' H' Ls' (st.trans s fun a z => z) g
  | .ok (.rt n d) e, h => exact fun v σ' H' Ls' Lt s g x => h v σ' H' Ls' Lt (st.trans s fun a z => z) g x
  | .err x e, h => exact fun σ' H' Ls' s g => h σ' H' Ls' (st.trans s fun a z => z) g
  | .no, h => exact h
/-- a statement's end, by its own -/
theorem tS_then {D : Ends} {m : M Fl} (G : Good R σ e H Ls F) {H0 : Hp} {B0 : Addr → Prop} (st : Step H0 B0 H (Bn R Ls F) F) (h : (m e).All (PostS R W H0 B0 F D)) : tS R W m D σ H := ⟨e, Ls, F, G, h.mono fun r z => PostS.by st z⟩

/-! ### stores -/
theorem js_asg {x : Str} {i : Nat} {a : Expr} {y : E} {p pos : Pos} (C : Cok X) (ha : JE g X a y) (hi : X.N[i]? = some x := by rfl) (hx : Loc X.env.scope x := by first | exact Or.inl rfl | exact Or.inr rfl) (hs : swapsWith a (some (.Name x p)) pos.line X.env = pure false := by rfl)
    (hf : X.fn x = true ∨ X.env.scope.names.lookup x = some .local := by first | exact .inl rfl | exact .inr rfl) : JS g X (.Assign [.Name x p] a pos) (.asg i y) := ⟨(ps_set C.nd hi hx ha.val hs hf).imp fun D σ H z => by
  obtain ⟨e, Ls, F, G, h⟩ := z
  refine tV_then G h (fun _ _ z => err_S z) no_S fun r e' v H' Ls' Lt hr s g rp => ?_
  obtain ⟨hl, h2⟩ := setE_all (P := fun r => (mk (fun _ => pu .nx) r).All (PostS _ _ _ _ _ D)) (all_mb.mp hr) no_S
  obtain ⟨g', s'⟩ := g.put rp hl
  exact h2 _ H' _ (s.trans s' fun a z => z) g'⟩
theorem js_ex {a : Expr} {y : E} {pos : Pos} (ha : JE g X a y) (hs : swapsWith a none pos.line X.env = pure false := by rfl) : JS g X (.Expr a pos) (.ex y) := ⟨(ps_expr ha.plc hs).imp fun D σ H z => by
  obtain ⟨e, Ls, F, G, h⟩ := z
  refine tP_then G h (fun _ _ z => err_S z) no_S fun r e' v H' Ls' Lt hr s g rp => ?_
  obtain ⟨g2, s2, _⟩ := g.letgo s
  exact hr _ H' _ s2 g2⟩
theorem js_doc {x : Str} {j : Nat} {p pos : Pos} : JS g X (.Expr (.Constant (.str x) j p) pos) .pss := ⟨ps_doc.imp fun D σ H z => by
  obtain ⟨e, Ls, F, G, h⟩ := z
  exact h σ H Ls .refl G⟩
theorem js_ret {a : Expr} {y : E} {pos : Pos} (ha : JE g X a y) : JS g X (.Return (some a) pos) (.ret y) := ⟨(ps_ret ha.val).imp fun D σ H z => by
  obtain ⟨e, Ls, F, G, h⟩ := z
  exact tV_then G h (fun _ _ z => err_S z) no_S fun r e' v H' Ls' Lt hr s g rp => hr v σ H' Ls' Lt s g rp⟩
theorem js_ret0 {pos : Pos} : JS g X (.Return none pos) .ret0 := ⟨ps_retN.imp fun D σ H z => by
  obtain ⟨e, Ls, F, G, h⟩ := z
  have h : PostS g.R g.W H (Bn g.R Ls F) F D (.ok (.rt 1 .non) e) := h
  exact h .non σ H Ls [] .refl G (by simp [Rep])⟩
theorem js_pass {pos : Pos} : JS g X (.Pass pos) .pss := ⟨ps_pass.imp fun D σ H z => by
  obtain ⟨e, Ls, F, G, h⟩ := z
  exact h σ H Ls .refl G⟩
theorem js_brk {pos : Pos} : JS g X (.Break pos) .brk := ⟨ps_break.imp fun D σ H z => by
  obtain ⟨e, Ls, F, G, h⟩ := z
  exact h σ H Ls .refl G⟩
theorem js_cnt {pos : Pos} : JS g X (.Continue pos) .cnt := ⟨ps_continue.imp fun D σ H z => by
  obtain ⟨e, Ls, F, G, h⟩ := z
  exact h σ H Ls .refl G⟩
theorem js_if {c : Expr} {y : E} {as bs : List Stmt} {xs ys : Ss} {pos : Pos} (hc : JE g X c y) (ha : JSs g X as xs) (hb : JSs g X bs ys) : JS g X (.If c as bs pos) (.ite y xs ys) := ⟨(ps_if hc.tst ha.run hb.run).imp fun D σ H z => by
  obtain ⟨e, Ls, F, G, h⟩ := z
  refine tT_then G h (fun _ _ z => err_S z) no_S fun b e' H' Ls' hr s g => ?_
  cases b with
  | true => exact tS_then g s hr
  | false => exact tS_then g s hr⟩
theorem jss_nil : JSs g X [] .nil := ⟨pss_nil.imp fun D σ H z => by
  obtain ⟨e, Ls, F, G, h⟩ := z
  exact h σ H Ls .refl G⟩
theorem jss_cons {a : Stmt} {as : List Stmt} {x : S} {xs : Ss} (ha : JS g X a x) (hr : JSs g X as xs) : JSs g X (a :: as) (.cons x xs) := ⟨(pss_cons ha.run hr.run).imp fun D σ H z => by
  obtain ⟨e, Ls, F, G, h⟩ := z
  refine ⟨e, Ls, F, G, (all_mb.mp h).mono fun r hr => ?_⟩
  match r, hr with
  | .ok .nx e', hr => exact fun σ' H' Ls' s g => tS_then g s hr
  | .ok .bk e', hr => exact hr
  | .ok .ct e', hr => exact hr
  | .ok (.rt n d) e', hr => exact hr
  | .err x e', hr => exact hr
  | .no, hr => exact hr⟩

/-! ### what a for walks -/
/-- J walks the data xs wherever T holds -/
structure ItOk (R : Rn) (J : It') (xs : List D) (T : Hp → (Addr → Prop) → Prop) : Prop where
  stp : ∀ i H B, T H B → xs.length ≤ i → J.stop i H
  go : ∀ i H B x, T H B → xs[i]? = some x → J.go i H
  yld : ∀ i H B x v H', T H B → xs[i]? = some x → (∀ p, B p → ∃ o, H p = some o) → J.yld i H v H' → (H' = H ∨ ∃ p o, H p = none ∧ H' = upd H p o) ∧ Rep R H' B 0 x v []
  stay : ∀ H B H' B' F, T H B → Step H B H' B' F → T H' B'
def PostI (R : Rn) (W : WD) (σ : St) (H : Hp) (B : Addr → Prop) (F : List Addr) (K : It' → Hp → Prop) : Rs (List D) → Prop
  | .ok xs e => ∀ J T H' Ls', Step H B H' (Bn R Ls' F) F → Good R σ e H' Ls' F → ItOk R J xs T → T H' (Bn R Ls' F) → K J H'
  | .err x e => ErrK R W σ H B F x e
  | .no => False
def tI (R : Rn) (W : WD) (m : M (List D)) : TI := fun σ H K => ∃ e Ls F, Good R σ e H Ls F ∧ (m e).All (PostI R W σ H (Bn R Ls F) F K)
def itM (sub : Nat → List Nat) (Fs : Nat → Fn) (it : It) (es : Es) : M (List D) := mb (evPs sub Fs es) fun ps => mb (vlPs ps) fun l => op (isem it (l.map (·.2)))
/-- the thing that a for walks -/
def JI (g : Cg) (X : Cx) (tg it : Expr) (o : It) (es : Es) : Prop := PI X tg it (tI g.R g.W (itM g.sub g.F o es))
theorem _root_.L2.PI.imp {X : Cx} {tg it : Expr} {t u : TI} (h : PI X tg it t) (f : ∀ σ H K, u σ H K → t σ H K) : PI X tg it u := ⟨fun pins s σ H K I z => h.run pins s σ H K I (f _ _ _ z)⟩
theorem no_I {H : Hp} {B : Addr → Prop} {F : List Addr} {K : It' → Hp → Prop} : ¬ PostI R W σ H B F K .no := fun z => z
theorem vlI_run {ma : M (List Pl)} {f : List (Nat × D) → M (List D)} {K : It' → Hp → Prop} {T : List V → Hp → Prop} (h : tI R W (mb ma fun ps => mb (vlPs ps) f) σ H K)
    (k : ∀ (l : List (Nat × D)) (e' : Env) (vs : List V) (H' H0 : Hp) (B0 : Addr → Prop) (Ls' : Nat → List Addr) (F : List Addr), (f l e').All (PostI R W σ H0 B0 F K) → Step H0 B0 H' (Bn R Ls' F) F → Good R σ e' H' Ls' F → Reps R H' (Bn R Ls' F) 0 (l.map (·.2)) vs [] → T vs H') : tA R W ma σ H T := by
  obtain ⟨e, Ls, F, G, h⟩ := h
  refine tA_then G h (fun _ _ z => z) no_I fun ps e1 vs H1 Ls1 L1 h1 s1 g1 p1 => ?_
  obtain ⟨l, e2, Ls2, h2, g2, s2, r2⟩ := vlPs_all g1 p1 (all_mb.mp h1) no_I
  refine k l e2 vs H1 H (Bn R Ls F) Ls2 F h2 ⟨s1.ext, s1.frm, fun a z => ?_⟩ g2 r2
  rcases s2.bn a z with y | y
  · exact s1.bn a y
  · obtain ⟨o, q⟩ := g2.has a z
    rw [q] at y
    cases y
/-- .. what is walked, from the data -/
theorem itM_run {it : It} {es : Es} {K : It' → Hp → Prop} {T : List V → Hp → Prop} (h : tI g.R g.W (itM g.sub g.F it es) σ H K)
    (k : ∀ (ds xs : List D) (vs : List V) (H' : Hp) (B : Addr → Prop), isem it ds = some xs → Reps g.R H' B 0 ds vs [] → (∀ a, B a → ∃ o, H' a = some o) → (∀ J T, ItOk g.R J xs T → T H' B → K J H') → T vs H') : tA g.R g.W (evPs g.sub g.F es) σ H T :=
  vlI_run h fun l e' vs H' H0 B0 Ls' F h st gd rp => by
    cases hi : isem it (l.map (·.2)) with
    | none =>
      rw [hi] at h
      exact h.elim
    | some xs =>
      rw [hi] at h
      exact k _ xs vs H' _ hi rp gd.has fun J T ok t => h J T H' Ls' st gd ok t
/-- a list that nobody owns -/
def TL (R : Rn) (a : Addr) (xs : List D) (vs : List V) (H : Hp) (B : Addr → Prop) : Prop := H a = some (.lst vs) ∧ ¬ B a ∧ Reps R H B 0 xs vs []
def TT' (R : Rn) (a : Addr) (xs : List D) (vs : List V) (H : Hp) (B : Addr → Prop) : Prop := H a = some (.tup vs) ∧ ¬ B a ∧ Reps R H B 0 xs vs []
theorem TL.stay {a : Addr} {xs : List D} {vs : List V} {H H' : Hp} {B B' : Addr → Prop} {F : List Addr} (t : TL R a xs vs H B) (s : Step H B H' B' F) : TL R a xs vs H' B' :=
  ⟨s.ext a _ t.1 t.2.1, fun z => (s.bn a z).elim t.2.1 fun q => (by rw [t.1] at q; cases q), t.2.2.by s fun _ z => nomatch z⟩
theorem TT'.stay {a : Addr} {xs : List D} {vs : List V} {H H' : Hp} {B B' : Addr → Prop} {F : List Addr} (t : TT' R a xs vs H B) (s : Step H B H' B' F) : TT' R a xs vs H' B' :=
  ⟨s.ext a _ t.1 t.2.1, fun z => (s.bn a z).elim t.2.1 fun q => (by rw [t.1] at q; cases q), t.2.2.by s fun _ z => nomatch z⟩
theorem it_lst {K : PySem.W.Frag} {a : Addr} {xs : List D} {vs : List V} : ItOk R (Itl K a) xs (TL R a xs vs) where
  stp := fun i H B t h => ⟨vs, .of t.1, by rw [t.2.2.length]; exact h⟩
  go := fun i H B x t h => by
    obtain ⟨v, hv, _⟩ := t.2.2.get h
    exact ⟨vs, v, .of t.1, hv⟩
  yld := fun i H B x v H' t h _ y => by
    obtain ⟨u, hu, ru⟩ := t.2.2.get h
    obtain ⟨rfl, y⟩ := y
    have := y vs (.of t.1)
    rw [hu] at this
    cases this
    exact ⟨.inl rfl, ru⟩
  stay := fun H B H' B' F t s => t.stay s
theorem it_tup {K : PySem.W.Frag} {a : Addr} {xs : List D} {vs : List V} : ItOk R (Itt K a) xs (TT' R a xs vs) where
  stp := fun i H B t h => ⟨vs, .of t.1, by rw [t.2.2.length]; exact h⟩
  go := fun i H B x t h => by
    obtain ⟨v, hv, _⟩ := t.2.2.get h
    exact ⟨vs, v, .of t.1, hv⟩
  yld := fun i H B x v H' t h _ y => by
    obtain ⟨u, hu, ru⟩ := t.2.2.get h
    obtain ⟨rfl, y⟩ := y
    have := y vs (.of t.1)
    rw [hu] at this
    cases this
    exact ⟨.inl rfl, ru⟩
  stay := fun H B H' B' F t s => t.stay s
theorem it_rng {lo hi : Int} : ItOk R (Itr lo (hi - lo).toNat) (rangeD lo hi) (fun _ _ => True) where
  stp := fun i H B _ h => by
    have hl : (rangeD lo hi).length = (hi - lo).toNat := by simp [rangeD]
    rw [hl] at h
    exact h
  go := fun i H B x _ h => by
    have h := (List.getElem?_eq_some_iff.mp h).1
    have hl : (rangeD lo hi).length = (hi - lo).toNat := by simp [rangeD]
    rw [hl] at h
    exact h
  yld := fun i H B x v H' _ h _ y => by
    obtain ⟨rfl, rfl⟩ := y
    unfold rangeD at h
    rw [List.getElem?_map, Option.map_eq_some_iff] at h
    obtain ⟨j, hj, rfl⟩ := h
    obtain ⟨h1, h2⟩ := List.getElem?_eq_some_iff.mp hj
    simp at h2
    subst h2
    exact ⟨.inl rfl, by simp [Rep]⟩
  stay := fun _ _ _ _ _ t _ => t
/-- a list or a tuple -/
def iSeqG (K : PySem.W.Frag) (tl : TE) : TI := fun σ H J => tl σ H fun x H1 => (∃ a xs, x = .ref a ∧ SqL K H1 a xs ∧ J (Itl K a) H1) ∨ ∃ a xs, x = .ref a ∧ SqT K H1 a xs ∧ J (Itt K a) H1
theorem pi_seqG {tg l : Expr} {tl : TE} (hl : PE X l tl) : PI X tg l (iSeqG X.K tl) := by
  refine ⟨fun pins s σ H J I h => thn (hl.run pins s σ H _ I h) fun v s1 ⟨x, H1, I1, r1, q1⟩ => ?_⟩
  have fp : ∀ b ∈ [s1.heap.objs.size], FpOk X pins H1 b := fun b hb => by
    rw [List.mem_singleton.mp hb]
    exact I1.fpOk (Nat.le_refl _) (I1.hok.fresh (Nat.le_refl _))
  rcases q1 with ⟨a, xs, rfl, hq, q⟩ | ⟨a, xs, rfl, hq, q⟩
  · cases r1
    obtain ⟨its, rv, p, hz⟩ := I1.list hq
    exact wpAny_pyIter_list p.isList ⟨s1.heap.objs.size, _, _, _, H1, rfl, I1.kept (t' := s1.toks) fun b o e => Heap.get?_push_of_some _ e, turn_list a _, ⟨_, Heap.get?_push_size _ rfl, rfl, rfl⟩, fp, q⟩
  · cases r1
    obtain ⟨its, rv, p, hz⟩ := I1.tuple hq
    exact wpAny_pyIter_tuple (show s1.heap.IsTuple a its.toArray from p) ⟨s1.heap.objs.size, _, _, _, H1, rfl, I1.kept (t' := s1.toks) fun b o e => Heap.get?_push_of_some _ e, turn_tuple a _, ⟨_, Heap.get?_push_size _ rfl, rfl, rfl⟩, fp, q⟩
theorem isem_seq {ds xs : List D} (h : isem .seq ds = some xs) : (ds = [.lst xs]) ∨ ds = [.tup xs] := by
  unfold isem at h
  split at h <;> first | (cases h; exact .inl rfl) | (cases h; exact .inr rfl) | (rename_i z; cases z) | cases h
theorem ji_seq {tg a : Expr} {x : E} (ha : JE g X a x) : JI g X tg a .seq (.cons x .nil) := (pi_seqG ha.plc).imp fun σ H K z => by
  have h1 := itM_run (T := fun vs H' => ∀ v, vs = [v] → (∃ a xs, v = .ref a ∧ SqL X.K H' a xs ∧ K (Itl X.K a) H') ∨ ∃ a xs, v = .ref a ∧ SqT X.K H' a xs ∧ K (Itt X.K a) H') z fun ds xs vs H' B hi rp hb k v ev => by
    subst ev
    rcases isem_seq hi with rfl | rfl
    · obtain ⟨v', vs', e0, r1, r2⟩ := rp.uncons
      cases e0
      simp only [Rep] at r1
      obtain ⟨p, ys, rfl, e1, nb, _, q1⟩ := r1
      exact .inl ⟨p, ys, rfl, .of e1, k _ _ it_lst ⟨e1, nb, q1⟩⟩
    · obtain ⟨v', vs', e0, r1, r2⟩ := rp.uncons
      cases e0
      obtain ⟨p, ys, rfl, e1, nb, q1⟩ := r1.tup rfl
      exact .inr ⟨p, ys, rfl, .of e1, k _ _ it_tup ⟨e1, nb, q1⟩⟩
  exact tP_mono (tA_1 h1) fun v H1 z => z v rfl
theorem isem_r1 {ds xs : List D} (h : isem .range1 ds = some xs) : ∃ n : Int, ds = [.int n] ∧ (-1000000000 < n ∧ n < 1000000000) ∧ xs = rangeD 0 n := by
  match ds, h with
  | [.int n], h =>
    simp only [isem] at h
    split at h
    · rename_i hn
      cases h
      exact ⟨n, rfl, hn, rfl⟩
    · cases h
theorem ji_range1 {tg a : Expr} {xs : Es} {p pos : Pos} (hg : Gl X "range") (hm : X.mg "range" = none) (ha : JA g X [a] xs) (hs : starEach [a] X.env = [(false, eval a X.env)] := by rfl) : JI g X tg (.Call (.Name "range" p) [a] [] pos) .range1 xs :=
  (pi_range1 hg hm ha hs).imp fun σ H K z => itM_run z fun ds ys vs H' B hi rp hb k => by
    obtain ⟨n, rfl, hn, rfl⟩ := isem_r1 hi
    obtain ⟨v', vs', rfl, r1, r2⟩ := rp.uncons
    simp only [Reps] at r2
    obtain ⟨rfl, _⟩ := r2
    have k2 := k (Itr 0 (n - 0).toNat) _ it_rng trivial
    rw [Int.sub_zero] at k2
    exact ⟨n, by rw [r1.int], by omega, by omega, k2⟩
theorem isem_r2 {ds xs : List D} (h : isem .range2 ds = some xs) : ∃ n m : Int, ds = [.int n, .int m] ∧ (-1000000000 < n ∧ n < 1000000000) ∧ (-1000000000 < m ∧ m < 1000000000) ∧ xs = rangeD n m := by
  match ds, h with
  | [.int n, .int m], h =>
    simp only [isem] at h
    split at h
    · rename_i hn
      cases h
      exact ⟨n, m, rfl, hn.1, hn.2, rfl⟩
    · cases h
theorem ji_range2 {tg a b : Expr} {xs : Es} {p pos : Pos} (hg : Gl X "range") (hm : X.mg "range" = none) (ha : JA g X [a, b] xs) (hs : starEach [a, b] X.env = [(false, eval a X.env), (false, eval b X.env)] := by rfl) (hs2 : starEach [b] X.env = [(false, eval b X.env)] := by rfl) :
    JI g X tg (.Call (.Name "range" p) [a, b] [] pos) .range2 xs :=
  (pi_range2 hg hm ha hs hs2).imp fun σ H K z => itM_run z fun ds ys vs H' B hi rp hb k => by
    obtain ⟨n, m, rfl, hn, hm, rfl⟩ := isem_r2 hi
    obtain ⟨v', vs', rfl, r1, r2⟩ := rp.uncons
    obtain ⟨v2, vs2, rfl, r3, r4⟩ := r2.uncons
    simp only [Reps] at r4
    obtain ⟨rfl, _⟩ := r4
    exact ⟨n, m, by rw [r1.int, r3.int], ⟨by omega, by omega, by omega, by omega⟩, k _ _ it_rng trivial⟩
end
end G

set_option maxHeartbeats 1000000
/-! G.Snd6: targets, loops, what changes a list. -/
namespace G
open PySem L2 PyProof.Rows
section
variable {g : Cg} {X : Cx} {R : Rn} {W : WD} {σ : St} {e : Env} {H : Hp} {Ls : Nat → List Addr} {F : List Addr} {sub : Nat → List Nat}

/-- a temporary is given away -/
theorem Good.froze {H0 : Hp} {B0 : Addr → Prop} {Lt : List Addr} {n : Nat} {d : D} {v : V} (g : Good R σ e H Ls (Lt ++ F)) (st : Step H0 B0 H (Bn R Ls (Lt ++ F)) F) (rp : Rep R H (Bn R Ls (Lt ++ F)) n d v Lt) : Good R σ e H Ls F ∧ Step H0 B0 H (Bn R Ls F) F ∧ Rep R H (Bn R Ls F) 0 d v [] := by
  have fd := List.nodup_append.mp g.fd
  obtain ⟨g2, s2, s3⟩ := g.letgo st
  refine ⟨g2, s2, Rep.frz n d v Lt (fun a z => ⟨s3.bn a z, fun y => ?_⟩) rp⟩
  rcases z with z | ⟨i, z⟩ | z
  · exact fd.2.2 a y a z rfl
  · exact g.fr i a z (List.mem_append_left _ y)
  · exact (g.ra a z).1 (List.mem_append_left _ y)

/-! ### targets -/
/-- only slots of these names differ -/
def OnlyIn (is : List Nat) (σ σ' : St) : Prop := ∀ vs : List Nat, (∀ i ∈ is, i ∈ vs) → wipe σ' vs = wipe σ vs
theorem wipe_get {σ : St} : ∀ {vs : List Nat} {i : Nat}, i ∉ vs → (wipe σ vs)[i]? = σ[i]?
  | [], _, _ => rfl
  | v :: vs, i, h => by
    have h1 : i ≠ v := fun z => h (by simp [z])
    unfold wipe
    rw [List.getElem?_set_ne (Ne.symm h1)]
    exact wipe_get fun z => h (List.mem_cons_of_mem _ z)
theorem wipe_none {σ : St} : ∀ {vs : List Nat} {i : Nat}, i ∈ vs → i < σ.length → (wipe σ vs)[i]? = some none
  | v :: vs, i, h, hl => by
    unfold wipe
    by_cases h1 : i = v
    · subst h1
      exact List.getElem?_set_self (by rw [wipe_length]; exact hl)
    · rw [List.getElem?_set_ne (Ne.symm h1)]
      exact wipe_none ((List.mem_cons.mp h).resolve_left h1) hl
theorem wipe_setI {σ : St} {vs : List Nat} {i : Nat} {x : Option V} (h : i ∈ vs) : wipe (σ.set i x) vs = wipe σ vs := by
  apply List.ext_getElem?
  intro j
  by_cases hj : j ∈ vs
  · by_cases hl : j < σ.length
    · rw [wipe_none hj hl, wipe_none hj (by simpa using hl)]
    · rw [List.getElem?_eq_none (by rw [wipe_length]; simpa using hl), List.getElem?_eq_none (by rw [wipe_length]; simpa using hl)]
  · rw [wipe_get hj, wipe_get hj, List.getElem?_set_ne fun z => hj (by rw [← z]; exact h)]
theorem OnlyIn.refl {is : List Nat} {σ : St} : OnlyIn is σ σ := fun _ _ => rfl
theorem OnlyIn.set {is : List Nat} {σ σ' : St} {i : Nat} {x : Option V} (h : OnlyIn is (σ.set i x) σ') : OnlyIn (i :: is) σ σ' := fun vs hv => by
  rw [h vs fun j hj => hv j (List.mem_cons_of_mem _ hj), wipe_setI (hv i List.mem_cons_self)]
def PostG (R : Rn) (is : List Nat) (σ : St) (H : Hp) (B : Addr → Prop) (F : List Addr) (Q : St → Hp → Prop) : Rs Unit → Prop
  | .ok _ e => ∀ σ' Ls', OnlyIn is σ σ' → Step H B H (Bn R Ls' F) F → Good R σ' e H Ls' F → Q σ' H
  | .err _ _ => True
  | .no => False
def tG (R : Rn) (is : List Nat) : TG := fun v σ H Q => ∃ d e Ls F, Good R σ e H Ls F ∧ Rep R H (Bn R Ls F) 0 d v [] ∧ (bindT is d e).All (PostG R is σ H (Bn R Ls F) F Q)
def JG (g : Cg) (X : Cx) (tg : Expr) (is : List Nat) : Prop := PG X tg (tG g.R is)
theorem no_G {is : List Nat} {H : Hp} {B : Addr → Prop} {F : List Addr} {Q : St → Hp → Prop} : ¬ PostG R is σ H B F Q .no := fun z => z
theorem _root_.L2.PG.imp {X : Cx} {tg : Expr} {t u : TG} (h : PG X tg t) (f : ∀ v σ H K, u v σ H K → t v σ H K) : PG X tg u := ⟨fun pins s σ H v w K I r z => h.run pins s σ H v w K I r (f _ _ _ _ z)⟩
/-- one name takes a datum -/
theorem set_run {β : Type} {i : Nat} {d : D} {v : V} {f : Unit → M β} {P : Rs β → Prop} (G : Good R σ e H Ls F) (r : Rep R H (Bn R Ls F) 0 d v []) (h : (mb (setE i (0, d)) f e).All P) (hn : ¬ P .no) :
    ∃ Ls', Good R (σ.set i (some v)) (e.set i (some (0, d))) H Ls' F ∧ Step H (Bn R Ls F) H (Bn R Ls' F) F ∧ (f () (e.set i (some (0, d)))).All P := by
  obtain ⟨hl, h2⟩ := setE_all (all_mb.mp h) hn
  obtain ⟨g', s'⟩ := Good.put (Lt := []) G r hl
  exact ⟨_, g', s', h2⟩
theorem jg_name {x : Str} {i : Nat} {pos : Pos} (C : Cok X) (hi : X.N[i]? = some x := by rfl) (hx : Loc X.env.scope x := by first | exact Or.inl rfl | exact Or.inr rfl) (hf : X.fn x = true ∨ X.env.scope.names.lookup x = some .local := by first | exact .inl rfl | exact .inr rfl) : JG g X (.Name x pos) [i] :=
  (pg_name C.nd hi hx hf).imp fun v σ H Q z => by
    obtain ⟨d, e, Ls, F, G, r, h⟩ := z
    have h : (setE i (0, d) e).All (PostG g.R [i] σ H (Bn g.R Ls F) F Q) := h
    obtain ⟨hl, h2⟩ := setE_all h no_G
    obtain ⟨g', s'⟩ := Good.put (Lt := []) G r hl
    exact h2 _ _ (OnlyIn.set .refl) s' g'
def gNms : List Nat → TGs
  | [] => gNil
  | i :: is => gCons (gName i) (gNms is)
def JGs (X : Cx) (ts : List Expr) (is : List Nat) : Prop := PGs X ts (gNms is)
theorem jgs_nil : JGs X [] [] := pgs_nil
theorem jgs_cons {x : Str} {i : Nat} {pos : Pos} {ts : List Expr} {is : List Nat} (C : Cok X) (hr : JGs X ts is) (hi : X.N[i]? = some x := by rfl) (hx : Loc X.env.scope x := by first | exact Or.inl rfl | exact Or.inr rfl) (hf : X.fn x = true ∨ X.env.scope.names.lookup x = some .local := by first | exact .inl rfl | exact .inr rfl)
    (hs : (assignEach (.Name x pos :: ts) X.env).map (·.2) = assign (.Name x pos) X.env :: (assignEach ts X.env).map (·.2) := by rfl) : JGs X (.Name x pos :: ts) (i :: is) := pgs_cons (pg_name C.nd hi hx hf) hr hs
theorem nms_run {Q : St → Hp → Prop} : ∀ {is : List Nat} {ds : List D} {vs : List V} {σ : St} {e : Env} {Ls Ls0 : Nat → List Addr} {B0 : Addr → Prop}, Good R σ e H Ls F → Step H B0 H (Bn R Ls F) F → Reps R H (Bn R Ls F) 0 ds vs [] → (bindTs is ds e).All (PostG R is σ H B0 F Q) → gNms is vs σ H Q ∧ is.length = vs.length
  | [], [], vs, σ, e, Ls, _, B0, G, st, r, h => by
    simp only [Reps] at r
    obtain ⟨rfl, _⟩ := r
    exact ⟨⟨rfl, h σ Ls .refl st G⟩, rfl⟩
  | i :: is, d :: ds, vs, σ, e, Ls, _, B0, G, st, r, h => by
    obtain ⟨v, vs', rfl, r1, r2⟩ := r.uncons
    obtain ⟨Ls', G', s', h'⟩ := set_run G r1 h no_G
    obtain ⟨z1, z2⟩ := nms_run (Ls0 := Ls) G' (st.trans s' fun a z => z) (r2.by s' fun _ z => nomatch z) (Tr.All.mono h' fun r z => match r, z with
      | .ok _ e2, z => fun σ' Ls' o => z σ' Ls' (OnlyIn.set o)
      | .err _ _, z => z
      | .no, z => z)
    exact ⟨⟨v, vs', rfl, z1⟩, by simp [z2]⟩
  | [], _ :: _, _, _, _, _, _, _, _, _, _, h => h.elim
  | _ :: _, [], _, _, _, _, _, _, _, _, _, h => h.elim
theorem tG_tup {is : List Nat} {v : V} {Q : St → Hp → Prop} {K : PySem.W.Frag} (hi : 2 ≤ is.length) (z : tG R is v σ H Q) : gTup K is.length (gNms is) v σ H Q := by
  obtain ⟨d, e, Ls, F, G, r, h⟩ := z
  match is, hi with
  | i :: j :: is, _ =>
    match d, h with
    | .tup l, h =>
      obtain ⟨a, xs, rfl, e1, nb, q1⟩ := r.tup rfl
      obtain ⟨z1, z2⟩ := nms_run (Ls0 := Ls) G .refl q1 h
      exact ⟨a, xs, rfl, .of e1, z2.symm, z1⟩
    | .non, h => exact h.elim
    | .bl _, h => exact h.elim
    | .int _, h => exact h.elim
    | .str _, h => exact h.elim
    | .lst _, h => exact h.elim
    | .dct _, h => exact h.elim
    | .set _, h => exact h.elim
    | .ins _ _, h => exact h.elim
    | .exn _ _, h => exact h.elim
    | .clo _ _, h => exact h.elim
    | .rnd, h => exact h.elim
    | .scr _, h => exact h.elim
theorem jg_tup {ts : List Expr} {is : List Nat} {k : Nat} {pos : Pos} (C : Cok X) (h : JGs X ts is) (hi : 2 ≤ is.length := by decide) (hn : (assignEach ts X.env).length = is.length := by rfl) (hst : (assignEach ts X.env).findIdx? (·.1) = none := by rfl) : JG g X (.Tuple ts k pos) is :=
  (pg_tup C.calm h hn hst).imp fun v σ H Q z => tG_tup hi z
/-- a, b, .. = e -/
theorem js_unp {ts : List Expr} {is : List Nat} {k : Nat} {p pos : Pos} {a : Expr} {y : E} (C : Cok X) (h : JGs X ts is) (ha : JE g X a y) (hi : 2 ≤ is.length := by decide) (hn : (assignEach ts X.env).length = is.length := by rfl) (hst : (assignEach ts X.env).findIdx? (·.1) = none := by rfl)
    (hs : swapsWithSole [.Tuple ts k p] a pos.line X.env = pure false := by rfl) (hw : swappedStores [.Tuple ts k p] a X.env = pure none := by rfl) (h1 : (assignEach [.Tuple ts k p] X.env).map (·.2) = [assign (.Tuple ts k p) X.env] := by rfl) :
    JS g X (.Assign [.Tuple ts k p] a pos) (.unp is y) := ⟨(ps_asg ha.val (jg_tup (g := g) C h hi hn hst) hs hw h1).imp fun D σ H z => by
  obtain ⟨e, Ls, F, G, h⟩ := z
  refine tV_then G h (fun _ _ z => err_S z) no_S fun r e' v H' Ls' Lt hr s gd rp => ?_
  obtain ⟨g2, s2, r0⟩ := gd.froze s rp
  have h3 : (bindT is r.2 e').All (PostG g.R is σ H' (Bn g.R Ls' F) F D.nx) := by
    match is, hi with
    | i :: j :: is, _ =>
      have hr : (mb (unpE (i :: j :: is) r.2) (fun _ => pu Fl.nx) e').All (PostS g.R g.W H (Bn g.R Ls F) F D) := hr
      generalize r.2 = d at hr
      match d, hr with
      | .tup l, hr =>
        have hr : (mb (bindTs (i :: j :: is) l) (fun _ => pu Fl.nx) e').All (PostS g.R g.W H (Bn g.R Ls F) F D) := hr
        exact (all_mb.mp hr).mono fun q hq => match q, hq with
          | .ok _ e2, hq => fun σ' Ls2 _ st gg => hq σ' H' Ls2 (s2.trans st fun a z => z) gg
          | .err _ _, _ => trivial
          | .no, hq => hq
      | .non, hr => exact hr.elim
      | .bl _, hr => exact hr.elim
      | .int _, hr => exact hr.elim
      | .str _, hr => exact hr.elim
      | .lst _, hr => exact hr.elim
      | .dct _, hr => exact hr.elim
      | .set _, hr => exact hr.elim
      | .ins _ _, hr => exact hr.elim
      | .exn _ _, hr => exact hr.elim
      | .clo _ _, hr => exact hr.elim
      | .rnd, hr => exact hr.elim
      | .scr _, hr => exact hr.elim
  exact ⟨r.2, e', Ls', F, g2, r0, h3⟩⟩
end
end G

set_option maxHeartbeats 1000000
/-! G.Snd7: loops, several stores at once, what changes a list. -/
namespace G
open PySem L2 PyProof.Rows
section
variable {g : Cg} {X : Cx} {R : Rn} {W : WD} {σ : St} {e : Env} {H : Hp} {Ls : Nat → List Addr} {F : List Addr} {sub : Nat → List Nat}

/-! ### loops -/
/-- behind i items -/
structure ForAt (R : Rn) (W : WD) (H0 : Hp) (B0 : Addr → Prop) (F : List Addr) (D : Ends) (T : Hp → (Addr → Prop) → Prop) (bind : G.D → M Unit) (body : M Fl) (xs : List G.D) (i : Nat) (σ : St) (H : Hp) : Prop where
  ex : ∃ e Ls, Good R σ e H Ls F ∧ Step H0 B0 H (Bn R Ls F) F ∧ T H (Bn R Ls F) ∧ (forL bind body (xs.drop i) e).All (PostS R W H0 B0 F D)
theorem for_run {it : It} {es : Es} {tg : List Nat} {body : M Fl} {D : Ends} (h : tS R W (mb (evPs sub g.F es) fun ps => mb (vlPs ps) fun l => mb (op (isem it (l.map (·.2)))) fun xs => forL (bindT tg) body xs) D σ H) :
    tFor (tI R W (itM sub g.F it es)) (tG R tg) (tS R W body) D σ H := by
  have eq : (mb (evPs sub g.F es) fun ps => mb (vlPs ps) fun l => mb (op (isem it (l.map (·.2)))) fun xs => forL (bindT tg) body xs) = mb (itM sub g.F it es) fun xs => forL (bindT tg) body xs := by
    unfold itM
    simp only [mb_assoc]
  rw [eq] at h
  obtain ⟨e, Ls, F, G, h⟩ := h
  refine ⟨e, Ls, F, G, (all_mb.mp h).mono fun r hr => ?_⟩
  match r, hr with
  | .err x e', hr => exact err_S hr
  | .no, hr => exact hr
  | .ok xs e', hr =>
    intro J T H1 Ls1 s1 g1 ok t1
    refine ⟨fun i m σ' H' => i ≤ xs.length ∧ m = xs.length - i ∧ ForAt R W H (Bn R Ls F) F D T (bindT tg) body xs i σ' H', ⟨xs.length, by omega, by omega, ⟨e', Ls1, g1, s1, t1, hr⟩⟩, ?_⟩
    rintro i m σ' H' ⟨hi, rfl, ⟨e2, Ls2, g2, s2, t2, h2⟩⟩
    by_cases hlt : i < xs.length
    · refine .inr ⟨ok.go i H' _ _ t2 (List.getElem?_eq_getElem hlt), fun σ'' H'' => i + 1 ≤ xs.length ∧ ForAt R W H (Bn R Ls F) F D T (bindT tg) body xs (i + 1) σ'' H'', fun σ'' H'' ⟨q1, q2⟩ => ⟨xs.length - (i + 1), by omega, q1, rfl, q2⟩, fun v H3 y => ?_⟩
      obtain ⟨hH, rp⟩ := ok.yld i H' _ _ v H3 t2 (List.getElem?_eq_getElem hlt) g2.has y
      have key : Good R σ' e2 H3 Ls2 F ∧ Step H' (Bn R Ls2 F) H3 (Bn R Ls2 F) F := by
        rcases hH with rfl | ⟨p, o, hp, rfl⟩
        · exact ⟨g2, .refl⟩
        · exact g2.newT hp
      obtain ⟨g3, s3⟩ := key
      have t3 := ok.stay _ _ _ _ _ t2 s3
      rw [List.drop_eq_getElem_cons hlt] at h2
      have h2 : (mb (bindT tg xs[i]) (fun _ => mb body fun f => match f with
        | .nx => forL (bindT tg) body (xs.drop (i + 1))
        | .ct => forL (bindT tg) body (xs.drop (i + 1))
        | .bk => pu .nx
        | .rt n d => pu (.rt n d)) e2).All (PostS R W H (Bn R Ls F) F D) := h2
      refine ⟨xs[i], e2, Ls2, F, g3, rp, (all_mb.mp h2).mono fun r hr => ?_⟩
      match r, hr with
      | .err x e', hr => trivial
      | .no, hr => exact hr
      | .ok _ e3, hr =>
        intro σ4 Ls4 _ s4 g4
        refine ⟨e3, Ls4, F, g4, (all_mb.mp hr).mono fun r hr => ?_⟩
        have s04 : Step H (Bn R Ls F) H3 (Bn R Ls4 F) F := (s2.trans s3 fun a z => z).trans s4 fun a z => z
        have t4 := ok.stay _ _ _ _ _ t3 s4
        match r, hr with
        | .ok .nx e5, hr => exact fun σ5 H5 Ls5 s5 g5 => ⟨hlt, ⟨e5, Ls5, g5, s04.trans s5 fun a z => z, ok.stay _ _ _ _ _ t4 s5, hr⟩⟩
        | .ok .ct e5, hr => exact fun σ5 H5 Ls5 s5 g5 => ⟨hlt, ⟨e5, Ls5, g5, s04.trans s5 fun a z => z, ok.stay _ _ _ _ _ t4 s5, hr⟩⟩
        | .ok .bk e5, hr => exact fun σ5 H5 Ls5 s5 g5 => hr σ5 H5 Ls5 (s04.trans s5 fun a z => z) g5
        | .ok (.rt n d) e5, hr => exact fun v5 σ5 H5 Ls5 L5 s5 g5 x5 => hr v5 σ5 H5 Ls5 L5 (s04.trans s5 fun a z => z) g5 x5
        | .err x e5, hr => exact fun σ5 H5 Ls5 s5 g5 => hr σ5 H5 Ls5 (s04.trans s5 fun a z => z) g5
        | .no, hr => exact hr
    · have hn : xs.drop i = [] := List.drop_eq_nil_of_le (by omega)
      rw [hn] at h2
      exact .inl ⟨ok.stp i H' _ t2 (by omega), h2 σ' H' Ls2 s2 g2⟩
theorem js_for {tg it : Expr} {is : List Nat} {o : It} {es : Es} {bs : List Stmt} {ys : Ss} {pos : Pos} (C : Cok X) (hi : JI g X tg it o es) (hg : JG g X tg is) (hb : JSs g X bs ys) (hs : ∀ x, foldedSetIterable it X.env x = pure x := by intro _; rfl) :
    JS g X (.For tg it bs [] pos) (.for_ is o es ys) := ⟨(ps_for C.own C.calm hi hg hb.run hs).imp fun D σ H z => for_run z⟩
theorem while_run {test : M Bool} {body : M Fl} {k : Nat} {D : Ends} (h : tS R W (whlL test body k) D σ H) : tWhile (tT R W test) (tS R W body) D σ H := by
  obtain ⟨e, Ls, F, G, h⟩ := h
  refine ⟨fun m σ' H' => ∃ e' Ls', Good R σ' e' H' Ls' F ∧ Step H (Bn R Ls F) H' (Bn R Ls' F) F ∧ (whlL test body m e').All (PostS R W H (Bn R Ls F) F D), ⟨k, e, Ls, G, .refl, h⟩, ?_⟩
  rintro m σ' H' ⟨e1, Ls1, g1, s1, h1⟩
  cases m with
  | zero => exact h1.elim
  | succ m =>
    refine ⟨e1, Ls1, F, g1, (all_mb.mp h1).mono fun r hr => ?_⟩
    match r, hr with
    | .err x e', hr => exact fun H5 Ls5 s5 g5 => hr σ' H5 Ls5 (s1.trans s5 fun a z => z) g5
    | .no, hr => exact hr
    | .ok b e2, hr =>
      intro H2 Ls2 s2 g2
      have s02 : Step H (Bn R Ls F) H2 (Bn R Ls2 F) F := s1.trans s2 fun a z => z
      cases b with
      | false => exact hr σ' H2 Ls2 s02 g2
      | true =>
        refine ⟨fun σ5 H5 => ∃ e' Ls', Good R σ5 e' H5 Ls' F ∧ Step H (Bn R Ls F) H5 (Bn R Ls' F) F ∧ (whlL test body m e').All (PostS R W H (Bn R Ls F) F D), fun σ5 H5 q => ⟨m, Nat.lt_succ_self m, q⟩, ?_⟩
        refine ⟨e2, Ls2, F, g2, (all_mb.mp hr).mono fun r hr => ?_⟩
        match r, hr with
        | .ok .nx e5, hr => exact fun σ5 H5 Ls5 s5 g5 => ⟨e5, Ls5, g5, s02.trans s5 fun a z => z, hr⟩
        | .ok .ct e5, hr => exact fun σ5 H5 Ls5 s5 g5 => ⟨e5, Ls5, g5, s02.trans s5 fun a z => z, hr⟩
        | .ok .bk e5, hr => exact fun σ5 H5 Ls5 s5 g5 => hr σ5 H5 Ls5 (s02.trans s5 fun a z => z) g5
        | .ok (.rt n d) e5, hr => exact fun v5 σ5 H5 Ls5 L5 s5 g5 x5 => hr v5 σ5 H5 Ls5 L5 (s02.trans s5 fun a z => z) g5 x5
        | .err x e5, hr => exact fun σ5 H5 Ls5 s5 g5 => hr σ5 H5 Ls5 (s02.trans s5 fun a z => z) g5
        | .no, hr => exact hr
theorem js_while {c : Expr} {y : E} {bs : List Stmt} {ys : Ss} {k : Nat} {pos : Pos} (C : Cok X) (hc : JE g X c y) (hb : JSs g X bs ys) : JS g X (.While c bs [] pos) (.whl k y ys) := ⟨(ps_while C.own hc.tst hb.run).imp fun D σ H z => while_run z⟩

/-! ### several stores at once -/
/-- data that are taken: their owners stay apart -/
def TReps (R : Rn) (H : Hp) (B : Addr → Prop) : List (Nat × D) → List V → List Addr → Prop
  | [], vs, L => vs = [] ∧ L = []
  | r :: t, vs, L => ∃ v vs' L1 L2, vs = v :: vs' ∧ L = L1 ++ L2 ∧ Rep R H B r.1 r.2 v L1 ∧ TReps R H B t vs' L2
theorem TReps.by {H' : Hp} {B B' : Addr → Prop} {F' : List Addr} (s : Step H B H' B' F') : ∀ {ps : List (Nat × D)} {vs : List V} {L : List Addr}, (∀ a ∈ L, H' a = H a) → TReps R H B ps vs L → TReps R H' B' ps vs L
  | [], _, _, _, h => h
  | p :: r, _, _, hL, h => by
    obtain ⟨v, vs', L1, L2, rfl, rfl, h1, h2⟩ := h
    exact ⟨v, vs', L1, L2, rfl, rfl, h1.by s fun a z => hL a (List.mem_append_left _ z), TReps.by s (fun a z => hL a (List.mem_append_right _ z)) h2⟩
theorem tkPs_all : ∀ {ps : List Pl} {vs : List V} {Lt L0 : List Addr} {e : Env} {Ls : Nat → List Addr} {P : Rs (List (Nat × D)) → Prop}, Good R σ e H Ls (L0 ++ (Lt ++ F)) → PReps R H (Bn R Ls (L0 ++ (Lt ++ F))) σ ps vs Lt → (vlPs ps e).All P → ¬ P .no →
    ∃ l e' Ls', P (.ok l e') ∧ Good R σ e' H Ls' (L0 ++ (Lt ++ F)) ∧ Step H (Bn R Ls (L0 ++ (Lt ++ F))) H (Bn R Ls' (L0 ++ (Lt ++ F))) (L0 ++ (Lt ++ F)) ∧ TReps R H (Bn R Ls' (L0 ++ (Lt ++ F))) l vs Lt
  | [], vs, Lt, L0, e, Ls, P, g, pr, h, hn => by
    obtain ⟨rfl, rfl⟩ := pr
    exact ⟨[], e, Ls, h, g, .refl, rfl, rfl⟩
  | .t n d :: ps, vs, Lt, L0, e, Ls, P, g, pr, h, hn => by
    obtain ⟨v, vs', L1, L2, rfl, rfl, h1, h2⟩ := pr
    have h' : (mb (vlPs ps) (fun l => pu ((n, d) :: l)) e).All P := h
    have eq : L0 ++ ((L1 ++ L2) ++ F) = (L0 ++ L1) ++ (L2 ++ F) := by simp
    rw [eq] at g h1 h2 ⊢
    obtain ⟨l, e2, Ls2, q2, g2, s2, r2⟩ := tkPs_all g h2 (all_mb.mp h') hn
    exact ⟨_, e2, Ls2, q2, g2, s2, v, vs', L1, L2, rfl, rfl, Rep.by s2 (fun _ _ => rfl) h1, r2⟩
  | .v i :: ps, vs, Lt, L0, e, Ls, P, g, pr, h, hn => by
    obtain ⟨v, vs', L1, L2, rfl, rfl, ⟨rfl, h1⟩, h2⟩ := pr
    have h' : (mb (frzE i) (fun a => mb (vlPs ps) fun l => pu (a :: l)) e).All P := h
    have h0 := all_mb.mp h'
    obtain ⟨⟨n, d⟩, h3, _⟩ := getE_all (all_mb.mp h0) hn
    obtain ⟨v', e1, g', st, rp⟩ := Good.give g h3
    rw [h1] at e1
    cases e1
    rw [frzE_ok h3] at h0
    have h4 : (mb (vlPs ps) (fun l => pu ((0, d) :: l)) (e.set i (some (0, d)))).All P := h0
    obtain ⟨l, e2, Ls2, q2, g2, s2, r2⟩ := tkPs_all g' (PReps.by st (fun _ _ => rfl) h2) (all_mb.mp h4) hn
    exact ⟨_, e2, Ls2, q2, g2, st.trans s2 fun a z => z, v, vs', [], L2, rfl, rfl, rp.by s2 (fun _ _ => rfl), r2⟩
/-- what is taken goes into the slots, one after another -/
def setσ : List Nat → List V → St → St
  | i :: is, v :: vs, σ => setσ is vs (σ.set i (some v))
  | _, _, σ => σ
theorem setAll_run {D : Ends} {H0 : Hp} {B0 : Addr → Prop} : ∀ {is : List Nat} {l : List (Nat × G.D)} {vs : List V} {Lt : List Addr} {σ : St} {e : Env} {Ls : Nat → List Addr}, Good R σ e H Ls (Lt ++ F) → Step H0 B0 H (Bn R Ls (Lt ++ F)) F → TReps R H (Bn R Ls (Lt ++ F)) l vs Lt →
    (mb (setAll is l) (fun _ => pu Fl.nx) e).All (PostS R W H0 B0 F D) → is.length = vs.length ∧ D.nx (setσ is vs σ) H
  | [], [], vs, Lt, σ, e, Ls, g, st, r, h => by
    obtain ⟨rfl, rfl⟩ := r
    exact ⟨rfl, h σ H Ls st g⟩
  | i :: is, d :: l, vs, Lt, σ, e, Ls, g, st, r, h => by
    obtain ⟨v, vs', L1, L2, rfl, rfl, r1, r2⟩ := r
    have h : (mb (mb (setE i d) fun _ => setAll is l) (fun _ => pu Fl.nx) e).All (PostS R W H0 B0 F D) := h
    rw [mb_assoc] at h
    obtain ⟨hl, h2⟩ := setE_all (all_mb.mp h) no_S
    rw [List.append_assoc] at g r1 r2 st
    obtain ⟨g', s'⟩ := g.put r1 hl
    have st' : Step H0 B0 H (Bn R (updL Ls i L1) (L2 ++ F)) F := st.trans (F1 := F) ⟨s'.ext, fun a z => rfl, s'.bn⟩ fun a z => z
    obtain ⟨z1, z2⟩ := setAll_run g' st' (r2.by s' fun _ _ => rfl) h2
    exact ⟨by simp [z1], z2⟩
  | [], _ :: _, _, _, _, _, _, _, _, _, h => h.elim
  | _ :: _, [], _, _, _, _, _, _, _, _, h => h.elim
theorem par_run {is : List Nat} {es : Es} {D : Ends} (h : tS g.R g.W (evS g.sub g.F (.par is es)) D σ H) : tA g.R g.W (evPs g.sub g.F es) σ H fun vs H1 => is.length = vs.length ∧ D.nx (setσ is vs σ) H1 := by
  obtain ⟨e, Ls, F, G, h⟩ := h
  refine tA_then G h (fun _ _ z => err_S z) no_S fun ps e1 vs H1 Ls1 L1 h1 s1 g1 p1 => ?_
  obtain ⟨l, e2, Ls2, h2, g2, s2, r2⟩ := tkPs_all (L0 := []) g1 p1 (all_mb.mp h1) no_S
  exact setAll_run (Lt := L1) (F := F) g2 (s1.trans ⟨s2.ext, fun a z => rfl, s2.bn⟩ fun a z => z) r2 h2
section
variable {a b c : Expr} {es : Es} {x y z : Str} {px py pz pt pos pt2 : Pos} {kt k2 : Nat} {i j l : Nat}
theorem js_par2 (C : Cok X) (ha : JA g X [a, b] es) (hi : X.N[i]? = some x := by rfl) (hj : X.N[j]? = some y := by rfl) (hij : i ≠ j := by decide) (hx : X.env.scope.names.lookup x = some .local := by rfl) (hy : X.env.scope.names.lookup y = some .local := by rfl)
    (hw : swappedStores [.Tuple [.Name x px, .Name y py] kt pt] (.Tuple [a, b] k2 pt2) X.env = pure (some [x, y]) := by rfl) (hs : swapsWithSole [.Tuple [.Name x px, .Name y py] kt pt] (.Tuple [a, b] k2 pt2) pos.line X.env = pure false := by rfl) :
    JS g X (.Assign [.Tuple [.Name x px, .Name y py] kt pt] (.Tuple [a, b] k2 pt2) pos) (.par [i, j] es) := ⟨(ps_par C.calm C.nd hi hj hij hx hy ha hw hs).imp fun D σ H z => tA_mono (par_run z) fun vs H1 ⟨h1, h2⟩ => by
  match vs, h1 with
  | [v, w], _ => exact ⟨v, w, rfl, h2⟩⟩
theorem js_par3 (C : Cok X) (ha : JA g X [a, b, c] es) (hi : X.N[i]? = some x := by rfl) (hj : X.N[j]? = some y := by rfl) (hl : X.N[l]? = some z := by rfl) (hij : i ≠ j := by decide) (hil : i ≠ l := by decide) (hjl : j ≠ l := by decide) (hx : X.env.scope.names.lookup x = some .local := by rfl) (hy : X.env.scope.names.lookup y = some .local := by rfl) (hz : X.env.scope.names.lookup z = some .local := by rfl)
    (hw : swappedStores [.Tuple [.Name x px, .Name y py, .Name z pz] kt pt] (.Tuple [a, b, c] k2 pt2) X.env = pure (some [x, y, z]) := by rfl) (hs : swapsWithSole [.Tuple [.Name x px, .Name y py, .Name z pz] kt pt] (.Tuple [a, b, c] k2 pt2) pos.line X.env = pure false := by rfl) :
    JS g X (.Assign [.Tuple [.Name x px, .Name y py, .Name z pz] kt pt] (.Tuple [a, b, c] k2 pt2) pos) (.par [i, j, l] es) := ⟨(ps_par3 C.calm C.nd hi hj hl hij hil hjl hx hy hz ha hw hs).imp fun D σ H z => tA_mono (par_run z) fun vs H1 ⟨h1, h2⟩ => by
  match vs, h1 with
  | [u, v, w], _ => exact ⟨u, v, w, rfl, h2⟩⟩
end
end
end G

set_option maxHeartbeats 1000000
/-! G.Snd8: what changes a list; isinstance; repr. -/
namespace G
open PySem L2 PyProof.Rows
section
variable {g : Cg} {X : Cx} {R : Rn} {W : WD} {σ : St} {e : Env} {H : Hp} {Ls : Nat → List Addr} {F : List Addr} {sub : Nat → List Nat}

/-! ### a list that a slot owns is changed -/
theorem Good.mutL {i : Nat} {l l' : List D} (g : Good R σ e H Ls F) (hi : e[i]? = some (some (1, .lst l))) :
    ∃ a xs, σ[i]? = some (some (.ref a)) ∧ H a = some (.lst xs) ∧ Reps R H (Bn R Ls F) 0 l xs [] ∧
      ∀ ys, Reps R H (Bn R Ls F) 0 l' ys [] → Good R σ (e.set i (some (1, .lst l'))) (upd H a (.lst ys)) Ls F ∧ Step H (Bn R Ls F) (upd H a (.lst ys)) (Bn R Ls F) F := by
  obtain ⟨v, e1, r⟩ := g.rep i 1 _ hi
  simp only [Rep] at r
  obtain ⟨a, xs, L', rfl, ha, hL, hr⟩ := r
  have z := Reps.zero l xs L' hr
  subst z
  refine ⟨a, xs, e1, ha, hr, fun ys hy => ?_⟩
  have mem : a ∈ Ls i := by rw [hL]; exact List.mem_cons_self
  have nF : a ∉ F := g.fr i a mem
  have nj : ∀ j, j ≠ i → a ∉ Ls j := fun j hj z => g.dis j i hj a z mem
  have st : Step H (Bn R Ls F) (upd H a (.lst ys)) (Bn R Ls F) F :=
    ⟨fun b o q nb => by rw [upd_ne fun z => nb (by rw [z]; exact .inr (.inl ⟨i, mem⟩))]; exact q, fun b hb => upd_ne fun z => nF (by rw [← z]; exact hb), fun b hb => .inl hb⟩
  have hil : i < e.length := (List.getElem?_eq_some_iff.mp hi).1
  have nra : ∀ b, RnA R b → b ≠ a := fun b hb z => (g.ra b hb).2 i (by rw [z]; exact mem)
  refine ⟨⟨by simpa using g.len, fun j m d' h => ?_, g.nd, g.dis, g.fr, g.fd, fun b hb => ?_, ?_, g.ra⟩, st⟩
  · by_cases hj : j = i
    · subst hj
      rw [List.getElem?_set_self hil] at h
      cases h
      refine ⟨_, e1, ?_⟩
      simp only [Rep]
      exact ⟨a, ys, [], rfl, upd_same, hL, hy.by st fun _ z => nomatch z⟩
    · rw [List.getElem?_set_ne (Ne.symm hj)] at h
      obtain ⟨v', e2, r'⟩ := g.rep j m d' h
      exact ⟨v', e2, r'.by st fun b hb => upd_ne fun z => nj j hj (by rw [← z]; exact hb)⟩
  · by_cases hb' : b = a
    · rw [hb']; exact ⟨_, upd_same⟩
    · obtain ⟨o, q⟩ := g.has b hb
      exact ⟨o, by rw [upd_ne hb']; exact q⟩
  · have h := g.rnd
    unfold RndOk at h ⊢
    cases hR : R.r with
    | none => trivial
    | some r =>
      rw [hR] at h
      obtain ⟨i, m, cs, tl, h1, h2, h3, h4⟩ := h
      exact ⟨i, m, cs, tl, h1, by rw [upd_ne (nra _ ⟨r, hR, .inl rfl⟩)]; exact h2, by rw [upd_ne (nra _ ⟨r, hR, .inr rfl⟩)]; exact h3, h4⟩
theorem Reps.set {B : Addr → Prop} {n : Nat} {d : D} {v : V} (h1 : Rep R H B n d v []) : ∀ {ds : List D} {xs : List V} (k : Nat), Reps R H B n ds xs [] → Reps R H B n (ds.set k d) (xs.set k v) []
  | [], xs, k, h => by
    simp only [Reps] at h
    rw [h.1]
    exact .nil
  | _ :: _, _, 0, h => by
    obtain ⟨v', vs, rfl, r1, r2⟩ := h.uncons
    exact .cons h1 r2
  | _ :: _, _, k + 1, h => by
    obtain ⟨v', vs, rfl, r1, r2⟩ := h.uncons
    exact .cons r1 (Reps.set h1 k r2)
theorem Reps.erase {B : Addr → Prop} {n : Nat} : ∀ {ds : List D} {xs : List V} (k : Nat), Reps R H B n ds xs [] → Reps R H B n (ds.eraseIdx k) (xs.eraseIdx k) []
  | [], xs, k, h => by
    simp only [Reps] at h
    rw [h.1]
    exact .nil
  | _ :: _, _, 0, h => by
    obtain ⟨v', vs, rfl, r1, r2⟩ := h.uncons
    exact r2
  | _ :: _, _, k + 1, h => by
    obtain ⟨v', vs, rfl, r1, r2⟩ := h.uncons
    exact .cons r1 (Reps.erase k r2)
/-- what the rule of a change is to reach -/
structure MuAt (R : Rn) (σ : St) (H : Hp) (i : Nat) (o : Mu) (ds : List D) (vs : List V) (Q : VK) : Prop where
  ex : ∃ (a : Addr) (xs : List V) (l l' : List D) (d : D) (B : Addr → Prop), σ[i]? = some (some (.ref a)) ∧ H a = some (.lst xs) ∧ Reps R H B 0 l xs [] ∧ Reps R H B 0 ds vs [] ∧ msem o (.lst l) ds = some (.lst l', d) ∧
    ∀ ys v, Reps R H B 0 l' ys [] → Rep R H B 0 d v [] → Q v (upd H a (.lst ys))
theorem msem_lst {o : Mu} {d : D} {ds : List D} {r : D × D} (h : msem o d ds = some r) : ∃ l l', d = .lst l ∧ r.1 = .lst l' := by
  unfold msem at h
  split at h
  · split at h
    · cases h; exact ⟨_, _, rfl, rfl⟩
    · cases h
  · split at h
    · cases h; exact ⟨_, _, rfl, rfl⟩
    · cases h
  · split at h
    · split at h
      · split at h
        · cases h; exact ⟨_, _, rfl, rfl⟩
        · cases h
      · cases h
    · cases h
  · split at h
    · cases h; exact ⟨_, _, rfl, rfl⟩
    · cases h
  · split at h
    · cases h; exact ⟨_, _, rfl, rfl⟩
    · cases h
  · cases h; exact ⟨_, _, rfl, rfl⟩
  · split at h
    · cases h; exact ⟨_, _, rfl, rfl⟩
    · cases h
  · cases h
theorem mu_run {β : Type} {o : Mu} {i : Nat} {ds : List D} {vs : List V} {f : Nat × D → M β} {P : Rs β → Prop} (G : Good R σ e H Ls F) (rp : Reps R H (Bn R Ls F) 0 ds vs []) (h : (mb (muE o i ds) f e).All P) (hn : ¬ P .no) (Q : VK)
    (k : ∀ d e' v H', (f (0, d) e').All P → Good R σ e' H' Ls F → Step H (Bn R Ls F) H' (Bn R Ls F) F → Rep R H' (Bn R Ls F) 0 d v [] → Q v H') : MuAt R σ H i o ds vs Q := by
  have h0 := all_mb.mp h
  unfold muE at h0
  obtain ⟨⟨n, d0⟩, h1, h2⟩ := getE_all (all_mb.mp h0) hn
  have h2 : ((tst (n == 1) (mb (op (msem o d0 ds)) fun r => mb (setE i (1, r.1)) fun _ => pu (0, r.2))) e).All fun r => (mk f r).All P := h2
  obtain ⟨hn1, h3⟩ := tst_all h2 hn
  have en : n = 1 := by simpa using hn1
  subst en
  obtain ⟨⟨d1, d⟩, hm, h4⟩ := mb_op h3 hn
  obtain ⟨l, l', e0, e1⟩ := msem_lst hm
  subst e0
  have e1 : d1 = .lst l' := e1
  subst e1
  obtain ⟨a, xs, ha, hH, hr, kk⟩ := G.mutL (l' := l') h1
  obtain ⟨hl, h5⟩ := setE_all (all_mb.mp h4) hn
  refine ⟨a, xs, l, l', d, Bn R Ls F, ha, hH, hr, rp, hm, fun ys v hy hv => ?_⟩
  obtain ⟨g', s'⟩ := kk ys hy
  exact k d _ v _ h5 g' s' (hv.by s' fun _ z => nomatch z)
/-- x.m(..) -/
theorem mcall_run {o : Mu} {i : Nat} {es : Es} {r : V → List V → Hp → VK → Prop} {K : PySem.W.Frag} {Q : VK} (hat : ∀ {σ H ds vs Q a}, MuAt g.R σ H i o ds vs Q → σ[i]? = some (some a) → r a vs H Q)
    (h : tV g.R g.W (ev g.sub g.F (.mu o i es)).val σ H Q) : tBM K "list" r (tVar i) (tA g.R g.W (evPs g.sub g.F es)) σ H Q := by
  obtain ⟨e, Ls, F, G, h⟩ := h
  have h : (mb (getE i) (fun x0 => tst (isL x0.2) (mb (evPs g.sub g.F es) fun ps => mb (vlPs ps) fun l => muE o i (l.map (·.2)))) e).All (PostV g.R g.W σ H (Bn g.R Ls F) F Q) := h
  obtain ⟨⟨n, d0⟩, h1, h2⟩ := getE_all (all_mb.mp h) no_V
  have h2 : (tst (isL d0) (mb (evPs g.sub g.F es) fun ps => mb (vlPs ps) fun l => muE o i (l.map (·.2))) e).All (PostV g.R g.W σ H (Bn g.R Ls F) F Q) := h2
  obtain ⟨hL, h3⟩ := tst_all h2 no_V
  obtain ⟨v, e1, rv⟩ := G.rep i n d0 h1
  refine ⟨v, e1, ?_, ?_⟩
  · match d0, hL, rv with
    | .lst l, _, rv =>
      have z : ∃ a xs, v = .ref a ∧ H a = some (.lst xs) := by
        cases n with
        | zero => simp only [Rep] at rv; obtain ⟨a, xs, rfl, e, _⟩ := rv; exact ⟨a, xs, rfl, e⟩
        | succ n => simp only [Rep] at rv; obtain ⟨a, xs, L', rfl, e, _⟩ := rv; exact ⟨a, xs, rfl, e⟩
      obtain ⟨a, xs, rfl, ha⟩ := z
      exact .inl ⟨rfl, xs, .of ha⟩
  · refine vl_run (f := fun l => muE o i (l.map (·.2))) (Q := Q) ⟨e, Ls, F, G, h3⟩ fun l e' vs H' H0 B0 Ls' F h4 st gd rp => ?_
    refine hat (mu_run (f := pu) (P := PostV g.R g.W σ H0 B0 F Q) gd rp (by
      have z : mb (muE o i (l.map (·.2))) pu = muE o i (l.map (·.2)) := by
        funext e
        show (muE o i (l.map (·.2)) e).bind (mk pu) = _
        rw [show (mk pu : Rs (Nat × D) → Tr (Rs (Nat × D))) = Tr.ret from by funext r; cases r <;> rfl, Tr.bind_ret]
      rw [z]
      exact h4) no_V Q fun d e2 v H2 h5 g5 s5 r5 => h5 v H2 Ls' [] (st.trans s5 fun a z => z) g5 r5) e1
theorem mu_append {i : Nat} {ds : List D} {vs : List V} {Q : VK} {a : V} (h : MuAt R σ H i .append ds vs Q) (ha : σ[i]? = some (some a)) : rAppend a vs H Q := by
  obtain ⟨p, xs, l, l', d, B, h1, h2, h3, h4, h5, k⟩ := h
  rw [ha] at h1
  cases h1
  match ds, h5 with
  | [x], h5 =>
    simp only [msem] at h5
    split at h5
    · rename_i hz
      cases h5
      obtain ⟨v, vs', rfl, r1, r2⟩ := h4.uncons
      simp only [Reps] at r2
      obtain ⟨rfl, _⟩ := r2
      exact ⟨p, xs, v, rfl, rfl, h2, by rw [h3.length]; exact hz, k _ _ (h3.app (.cons r1 .nil)) (by simp [Rep])⟩
    · cases h5
theorem mu_pop0 {i : Nat} {ds : List D} {vs : List V} {Q : VK} {a : V} (h : MuAt R σ H i .pop0 ds vs Q) (ha : σ[i]? = some (some a)) : rPop a vs H Q := by
  obtain ⟨p, xs, l, l', d, B, h1, h2, h3, h4, h5, k⟩ := h
  rw [ha] at h1
  cases h1
  match ds, h5 with
  | [], h5 =>
    simp only [msem] at h5
    split at h5
    · rename_i x hx
      cases h5
      simp only [Reps] at h4
      obtain ⟨rfl, _⟩ := h4
      rw [List.getLast?_eq_getElem?] at hx
      obtain ⟨v, hv, rv⟩ := h3.get hx
      refine ⟨p, xs, v, rfl, rfl, h2, by rw [h3.length]; exact hv, k _ _ ?_ rv⟩
      rw [List.dropLast_eq_take, List.dropLast_eq_take, h3.length]
      exact h3.take _
    · cases h5
theorem ixN_bd {n : Nat} {i : Int} {k : Nat} (h : ixN n i = some k) (hn : n ≤ sizeLine) : -(2 ^ 63) ≤ i ∧ i < 2 ^ 63 := by
  obtain ⟨_, _, h1, h2⟩ := ixN_seq h
  rw [sizeLine_eq] at hn
  omega
theorem mu_pop1 {i : Nat} {ds : List D} {vs : List V} {Q : VK} {a : V} (h : MuAt R σ H i .pop1 ds vs Q) (ha : σ[i]? = some (some a)) : rPopAt a vs H Q := by
  obtain ⟨p, xs, l, l', d, B, h1, h2, h3, h4, h5, k⟩ := h
  rw [ha] at h1
  cases h1
  match ds, h5 with
  | [.int j], h5 =>
    simp only [msem] at h5
    split at h5
    · rename_i hz
      split at h5
      · rename_i m hm
        split at h5
        · rename_i x hx
          cases h5
          obtain ⟨v, vs', rfl, r1, r2⟩ := h4.uncons
          simp only [Reps] at r2
          obtain ⟨rfl, _⟩ := r2
          obtain ⟨w, hw, rw'⟩ := h3.get hx
          rw [← h3.length] at hm hz
          obtain ⟨b1, b2⟩ := ixN_bd hm hz
          exact ⟨p, xs, j, m, w, rfl, by rw [r1.int], h2, b1, b2, (ixN_seq hm).1, hw, k _ _ (h3.erase m) rw'⟩
        · cases h5
      · cases h5
    · cases h5
theorem mu_clear {i : Nat} {ds : List D} {vs : List V} {Q : VK} {a : V} (h : MuAt R σ H i .clear ds vs Q) (ha : σ[i]? = some (some a)) : rClear a vs H Q := by
  obtain ⟨p, xs, l, l', d, B, h1, h2, h3, h4, h5, k⟩ := h
  rw [ha] at h1
  cases h1
  match ds, h5 with
  | [], h5 =>
    simp only [msem] at h5
    cases h5
    simp only [Reps] at h4
    obtain ⟨rfl, _⟩ := h4
    exact ⟨p, xs, rfl, rfl, h2, k _ _ .nil (by simp [Rep])⟩
theorem mu_extend {i : Nat} {ds : List D} {vs : List V} {Q : VK} {a : V} (h : MuAt R σ H i .extend ds vs Q) (ha : σ[i]? = some (some a)) : rExtend a vs H Q := by
  obtain ⟨p, xs, l, l', d, B, h1, h2, h3, h4, h5, k⟩ := h
  rw [ha] at h1
  cases h1
  match ds, h5 with
  | [.lst m], h5 =>
    simp only [msem] at h5
    split at h5
    · rename_i hz
      cases h5
      obtain ⟨v, vs', rfl, r1, r2⟩ := h4.uncons
      simp only [Reps] at r2
      obtain ⟨rfl, _⟩ := r2
      simp only [Rep] at r1
      obtain ⟨q, zs, rfl, e1, nb, _, q1⟩ := r1
      exact ⟨p, q, xs, zs, rfl, rfl, h2, e1, by rw [h3.length, q1.length]; exact hz, k _ _ (h3.app q1) (by simp [Rep])⟩
    · cases h5
def rInsertG : V → List V → Hp → VK → Prop := fun x vs H Q => ∃ (l : Addr) (xs : List V) (i : Int) (y : V), x = .ref l ∧ vs = [.int i, y] ∧ H l = some (.lst xs) ∧ xs.length < sizeLine ∧ 0 ≤ i ∧ i < 2 ^ 63 ∧ Q .non (upd H l (.lst (xs.take i.toNat ++ [y] ++ xs.drop i.toNat)))
theorem mu_insert {i : Nat} {ds : List D} {vs : List V} {Q : VK} {a : V} (h : MuAt R σ H i .insert ds vs Q) (ha : σ[i]? = some (some a)) : rInsertG a vs H Q := by
  obtain ⟨p, xs, l, l', d, B, h1, h2, h3, h4, h5, k⟩ := h
  rw [ha] at h1
  cases h1
  match ds, h5 with
  | [.int j, x], h5 =>
    simp only [msem] at h5
    split at h5
    · rename_i hz
      cases h5
      obtain ⟨v, vs', rfl, r1, r2⟩ := h4.uncons
      obtain ⟨w, vs2, rfl, r3, r4⟩ := r2.uncons
      simp only [Reps] at r4
      obtain ⟨rfl, _⟩ := r4
      exact ⟨p, xs, j, w, rfl, by rw [r1.int], h2, by rw [h3.length]; exact hz.2.2, hz.1, by omega, k _ _ (((h3.take _).app (.cons r3 .nil)).app (h3.drop _)) (by simp [Rep])⟩
    · cases h5
end
end G

set_option maxHeartbeats 1000000
/-! G.Snd9: methods of lists, item stores, isinstance, repr, comprehensions. -/
namespace G
open PySem L2 PyProof.Rows
section
variable {g : Cg} {X : Cx} {R : Rn} {W : WD} {σ : St} {e : Env} {H : Hp} {Ls : Nat → List Addr} {F : List Addr} {sub : Nat → List Nat}
section
variable {x : Str} {i : Nat} {a b : Expr} {as : List Expr} {es : Es} {p apos cpos : Pos}
/-- what the text of x.m(a, ..) asks -/
structure PlM (X : Cx) (x m : Str) (p apos cpos : Pos) (a : Expr) (as : List Expr) : Prop where
  hbase : attributeBase (.Name x p) m X.env (eval (.Name x p) X.env) = eval (.Name x p) X.env := by rfl
  hfew : ((backTo cpos (starEach (a :: as) X.env)).all (fun x => !x.1) && (backToKw cpos (keywordEach [] X.env)).all (fun x => x.1.isSome)
      && decide ((a :: as).length + ([] : List Keyword).length + (if ([] : List Keyword).isEmpty then 0 else 1) < 30)) = true := by rfl
  hline : (apos.endLine == cpos.line) = true := by rfl
  hs : starEach (a :: as) X.env = (false, eval a X.env) :: starEach as X.env := by rfl
  hpl : (backTo cpos (starEach as X.env)).any (·.1) = false := by rfl
theorem je_mc {o : Mu} {m : Str} {id : String} {r : V → List V → Hp → VK → Prop} (slot : Slot "list" m id) (hty : typeOf (.builtin id) = pure (.type "method_descriptor")) (hm : MtR X id r) (hat : ∀ {σ H ds vs Q a}, MuAt g.R σ H i o ds vs Q → σ[i]? = some (some a) → r a vs H Q)
    (hv : PE X (.Name x p) (tVar i)) (ha : JA g X (a :: as) es) (z : PlM X x m p apos cpos a as) : JE g X (.Call (.Attribute (.Name x p) m apos) (a :: as) [] cpos) (.mu o i es) :=
  .of ((pe_bm PySem.F.plainAttrs_list slot hty hm hv ha z.hbase z.hfew z.hline z.hs z.hpl).imp fun σ H Q h => mcall_run hat h) (fun _ => rfl) rfl fun _ => rfl
theorem je_mc0 {o : Mu} {m : Str} {id : String} {r : V → List V → Hp → VK → Prop} (slot : Slot "list" m id) (hty : typeOf (.builtin id) = pure (.type "method_descriptor")) (hm : MtR X id r) (hat : ∀ {σ H ds vs Q a}, MuAt g.R σ H i o ds vs Q → σ[i]? = some (some a) → r a vs H Q)
    (hv : PE X (.Name x p) (tVar i)) (hbase : attributeBase (.Name x p) m X.env (eval (.Name x p) X.env) = eval (.Name x p) X.env) (hline : (apos.endLine == cpos.line) = true) : JE g X (.Call (.Attribute (.Name x p) m apos) [] [] cpos) (.mu o i .nil) :=
  .of ((pe_bm0 PySem.F.plainAttrs_list slot hty hm hv hbase hline).imp fun σ H Q h => by
    obtain ⟨v, e1, h1, h2⟩ := mcall_run (K := X.K) hat h
    exact ⟨v, e1, h1, tA_nil h2⟩) (fun _ => rfl) rfl fun _ => rfl
theorem je_append (hv : PE X (.Name x p) (tVar i)) (ha : JA g X [a] es) (z : PlM X x "append" p apos cpos a [] := by exact {}) : JE g X (.Call (.Attribute (.Name x p) "append" apos) [a] [] cpos) (.mu .append i es) := je_mc PySem.F.slot_list_append PySem.F.type_list_append mt_append mu_append hv ha z
theorem je_pop1 (hv : PE X (.Name x p) (tVar i)) (ha : JA g X [a] es) (z : PlM X x "pop" p apos cpos a [] := by exact {}) : JE g X (.Call (.Attribute (.Name x p) "pop" apos) [a] [] cpos) (.mu .pop1 i es) := je_mc PySem.F.slot_list_pop PySem.F.type_list_pop mt_popAt mu_pop1 hv ha z
theorem je_extend (hv : PE X (.Name x p) (tVar i)) (ha : JA g X [a] es) (z : PlM X x "extend" p apos cpos a [] := by exact {}) : JE g X (.Call (.Attribute (.Name x p) "extend" apos) [a] [] cpos) (.mu .extend i es) := je_mc PySem.F.slot_list_extend PySem.F.type_list_extend mt_extend mu_extend hv ha z
theorem je_insert (hv : PE X (.Name x p) (tVar i)) (ha : JA g X [a, b] es) (z : PlM X x "insert" p apos cpos a [b] := by exact {}) : JE g X (.Call (.Attribute (.Name x p) "insert" apos) [a, b] [] cpos) (.mu .insert i es) := je_mc (r := rInsertG) PySem.F.slot_list_insert PySem.F.type_list_insert mt_insert mu_insert hv ha z
theorem je_pop0 (hv : PE X (.Name x p) (tVar i)) (hbase : attributeBase (.Name x p) "pop" X.env (eval (.Name x p) X.env) = eval (.Name x p) X.env := by rfl) (hline : (apos.endLine == cpos.line) = true := by rfl) : JE g X (.Call (.Attribute (.Name x p) "pop" apos) [] [] cpos) (.mu .pop0 i .nil) := je_mc0 PySem.F.slot_list_pop PySem.F.type_list_pop mt_pop mu_pop0 hv hbase hline
theorem je_clear (hv : PE X (.Name x p) (tVar i)) (hbase : attributeBase (.Name x p) "clear" X.env (eval (.Name x p) X.env) = eval (.Name x p) X.env := by rfl) (hline : (apos.endLine == cpos.line) = true := by rfl) : JE g X (.Call (.Attribute (.Name x p) "clear" apos) [] [] cpos) (.mu .clear i .nil) := je_mc0 PySem.F.slot_list_clear PySem.F.type_list_clear mt_clear mu_clear hv hbase hline
/-! ### x[k] = v -/
theorem put_run {y w : E} {D : Ends} (h : tS g.R g.W (evS g.sub g.F (.put i y w)) D σ H) :
    tAsg (tP g.R g.W (plOf w (ev g.sub g.F w).val)) (gSub (tVar i) (tP g.R g.W (plOf y (ev g.sub g.F y).val)) rSetL) D σ H := by
  obtain ⟨e, Ls, F, G, h⟩ := h
  have h : (mb (getE i) (fun _ => mb (evPs g.sub g.F (.cons w (.cons y .nil))) fun ps => mb (vlPs ps) fun l => mb (muE .put i (l.map (·.2)).reverse) fun _ => pu .nx) e).All (PostS g.R g.W H (Bn g.R Ls F) F D) := h
  obtain ⟨⟨n, d0⟩, h1, h2⟩ := getE_all (all_mb.mp h) no_S
  obtain ⟨v, e1, rv⟩ := G.rep i n d0 h1
  have h2 : (mb (mb (plOf w (ev g.sub g.F w).val) fun p => mb (mb (plOf y (ev g.sub g.F y).val) fun p => mb (pu []) fun ps => pu (p :: ps)) fun ps => pu (p :: ps)) (fun ps => mb (vlPs ps) fun l => mb (muE .put i (l.map (·.2)).reverse) fun _ => pu .nx) e).All (PostS g.R g.W H (Bn g.R Ls F) F D) := h2
  simp only [mb_assoc, mb_pu] at h2
  refine tP_step (L1 := []) (vs := []) (ps := []) G .refl ⟨rfl, rfl⟩ h2 (fun _ _ z => err_S z) no_S fun p e1' u H1 Ls1 L1 h3 g1 s1 p1 => ?_
  refine ⟨v, e1, ?_⟩
  refine tP_step g1 s1 p1 h3 (fun _ _ z => err_S z) no_S fun q e2 t H2 Ls2 L2 h4 g2 s2 p2 => ?_
  obtain ⟨l, e3, Ls3, h5, g3, s3, r3⟩ := vlPs_all g2 p2 (all_mb.mp h4) no_S
  have st : Step H (Bn g.R Ls F) H2 (Bn g.R Ls3 F) F := ⟨s2.ext, s2.frm, fun a z => by
    rcases s3.bn a z with y | y
    · exact s2.bn a y
    · obtain ⟨o, q⟩ := g3.has a z
      rw [q] at y
      cases y⟩
  have r4 : Reps g.R H2 (Bn g.R Ls3 F) 0 (l.map (·.2)).reverse [t, u] [] := r3.rev
  obtain ⟨a, xs, m, m', d, B, z1, z2, z3, z4, z5, z6⟩ := mu_run g3 r4 h5 no_S (fun _ H' => D.nx σ H') fun d e4 v4 H4 h6 g6 s6 _ => h6 σ H4 Ls3 (st.trans s6 fun a z => z) g6
  rw [e1] at z1
  cases z1
  generalize (l.map (·.2)).reverse = ds at z4 z5
  match ds, z5 with
  | [.int j, c], z5 =>
    simp only [msem] at z5
    split at z5
    · rename_i k hk
      cases z5
      obtain ⟨v', vs', e0, r1, r2⟩ := z4.uncons
      cases e0
      obtain ⟨v2, vs2, e0, r5, r6⟩ := r2.uncons
      cases e0
      rw [← z3.length] at hk
      exact ⟨a, xs, j, k, rfl, r1.int, z2, hk, z6 _ .non (z3.set r5 k) (by simp [Rep])⟩
    · cases z5
theorem js_put {y w : E} {tpos pos : Pos} (hv : PE X (.Name x p) (tVar i)) (hb : JE g X b y) (ha : JE g X a w)
    (hset : ∀ v, assign (.Subscript (.Name x p) b tpos) X.env v = (do
      let ov ← holding [v] (eval (.Name x p) X.env)
      let iv ← holding [v, ov] (eval b X.env)
      standAt tpos
      holding [v, ov, iv] (setItem ov iv v)
      release [v, ov, iv] []) := by intro _; rfl)
    (hs : swapsWithSole [.Subscript (.Name x p) b tpos] a pos.line X.env = pure false := by rfl) (hw : swappedStores [.Subscript (.Name x p) b tpos] a X.env = pure none := by rfl) (h1 : (assignEach [.Subscript (.Name x p) b tpos] X.env).map (·.2) = [assign (.Subscript (.Name x p) b tpos) X.env] := by rfl) :
    JS g X (.Assign [.Subscript (.Name x p) b tpos] a pos) (.put i y w) := ⟨(ps_asg ha.plc (pg_sub hv hb.plc set_list hset) hs hw h1).imp fun D σ H z => put_run z⟩
end
end
end G

set_option maxHeartbeats 1000000
/-! G.Snd10: comprehensions of lists. -/
namespace G
open PySem L2 PyProof.Rows
section
variable {g : Cg} {X : Cx} {R : Rn} {W : WD} {σ : St} {e : Env} {H : Hp} {Ls : Nat → List Addr} {F : List Addr} {sub : Nat → List Nat}
theorem wipeE_get : ∀ {own : List Nat} {e : Env} {i : Nat}, i ∉ own → (wipeE own e)[i]? = e[i]?
  | [], _, _, _ => rfl
  | v :: vs, e, i, h => by
    have h1 : i ≠ v := fun z => h (by simp [z])
    show (wipeE vs (e.set v none))[i]? = e[i]?
    rw [wipeE_get fun z => h (List.mem_cons_of_mem _ z), List.getElem?_set_ne (Ne.symm h1)]
theorem wipe_wipe {σ : St} {own : List Nat} : wipe (wipe σ own) own = wipe σ own := by
  apply List.ext_getElem?
  intro j
  by_cases hj : j ∈ own
  · by_cases hl : j < σ.length
    · rw [wipe_none hj (by rw [wipe_length]; exact hl), wipe_none hj hl]
    · rw [List.getElem?_eq_none (by rw [wipe_length, wipe_length]; simpa using hl), List.getElem?_eq_none (by rw [wipe_length]; simpa using hl)]
  · rw [wipe_get hj]
theorem wipeE_len : ∀ {own : List Nat} {e : Env}, (wipeE own e).length = e.length
  | [], _ => rfl
  | v :: vs, e => by
    show (wipeE vs (e.set v none)).length = _
    rw [wipeE_len, List.length_set]
theorem wipeE_keep : ∀ {own : List Nat} {e : Env} {i : Nat} {r : Nat × D}, (wipeE own e)[i]? = some (some r) → e[i]? = some (some r)
  | [], _, _, _, h => h
  | v :: vs, e, i, r, h => by
    have h1 : (e.set v none)[i]? = some (some r) := wipeE_keep (own := vs) h
    by_cases hv : v = i
    · subst hv
      by_cases hl : v < e.length
      · rw [List.getElem?_set_self hl] at h1; cases h1
      · rw [List.getElem?_eq_none (by simpa using hl)] at h1; cases h1
    · rwa [List.getElem?_set_ne hv] at h1
theorem wipeE_some : ∀ {own : List Nat} {e : Env} {i : Nat} {r : Nat × D}, (wipeE own e)[i]? = some (some r) → e[i]? = some (some r) ∧ i ∉ own
  | [], _, _, _, h => ⟨h, by simp⟩
  | v :: vs, e, i, r, h => by
    obtain ⟨h1, h2⟩ := wipeE_some (own := vs) (e := e.set v none) h
    by_cases hv : v = i
    · subst hv
      by_cases hl : v < e.length
      · rw [List.getElem?_set_self hl] at h1; cases h1
      · rw [List.getElem?_eq_none (by simpa using hl)] at h1; cases h1
    · rw [List.getElem?_set_ne hv] at h1
      exact ⟨h1, by simp only [List.mem_cons, not_or]; exact ⟨fun e => hv e.symm, h2⟩⟩
def wipeL (own : List Nat) (Ls : Nat → List Addr) : Nat → List Addr := fun i => if i ∈ own then [] else Ls i
theorem wipeL_mem {own : List Nat} {i : Nat} {a : Addr} (h : a ∈ wipeL own Ls i) : i ∉ own ∧ a ∈ Ls i := by
  unfold wipeL at h
  split at h
  · cases h
  · rename_i hi; exact ⟨hi, h⟩
theorem bn_wipe {own : List Nat} {a : Addr} (h : Bn R (wipeL own Ls) F a) : Bn R Ls F a := by
  rcases h with h | ⟨i, h⟩ | h
  · exact .inl h
  · exact .inr (.inl ⟨i, (wipeL_mem h).2⟩)
  · exact .inr (.inr h)
/-- the slots of own forgotten -/
theorem Good.forget {own : List Nat} (g : Good R σ e H Ls F) : Good R (wipe σ own) (wipeE own e) H (wipeL own Ls) F ∧ Step H (Bn R Ls F) H (Bn R (wipeL own Ls) F) F := by
  have st : Step H (Bn R Ls F) H (Bn R (wipeL own Ls) F) F := ⟨fun _ _ e _ => e, fun _ _ => rfl, fun a h => .inl (bn_wipe h)⟩
  refine ⟨⟨by rw [wipeE_len, wipe_length]; exact g.len, fun i n d h => ?_, fun i => ?_, fun i j hij a ha hb => g.dis i j hij a (wipeL_mem ha).2 (wipeL_mem hb).2, fun i a ha => g.fr i a (wipeL_mem ha).2, g.fd, fun a h => g.has a (bn_wipe h), g.rnd, fun a h => ⟨(g.ra a h).1, fun i z => (g.ra a h).2 i (wipeL_mem z).2⟩⟩, st⟩
  · obtain ⟨h1, h2⟩ := wipeE_some h
    obtain ⟨v, e1, r⟩ := g.rep i n d h1
    refine ⟨v, by rw [wipe_get h2]; exact e1, ?_⟩
    have : wipeL own Ls i = Ls i := by unfold wipeL; rw [if_neg h2]
    rw [this]
    exact r.by st fun _ _ => rfl
  · unfold wipeL
    split
    · exact List.nodup_nil
    · exact g.nd i
theorem backE_len : ∀ {own : List Nat} {e₀ e : Env}, (backE own e₀ e).length = e.length
  | [], _, _ => rfl
  | v :: vs, e₀, e => by
    show (backE vs e₀ (e.set v _)).length = _
    rw [backE_len, List.length_set]
theorem backE_out : ∀ {own : List Nat} {e₀ e : Env} {i : Nat}, i ∉ own → (backE own e₀ e)[i]? = e[i]?
  | [], _, _, _, _ => rfl
  | v :: vs, e₀, e, i, h => by
    have h1 : i ≠ v := fun z => h (by simp [z])
    show (backE vs e₀ (e.set v _))[i]? = e[i]?
    rw [backE_out fun z => h (List.mem_cons_of_mem _ z), List.getElem?_set_ne (Ne.symm h1)]
theorem backE_in : ∀ {own : List Nat} {e₀ e : Env} {i : Nat} {r : Nat × D}, i ∈ own → (backE own e₀ e)[i]? = some (some r) → e₀[i]? = some (some r)
  | v :: vs, e₀, e, i, r, hi, h => by
    by_cases hv : i ∈ vs
    · exact backE_in (own := vs) hv h
    · have h1 : (backE vs e₀ (e.set v ((e₀[v]?).getD none)))[i]? = some (some r) := h
      have hiv : i = v := (List.mem_cons.mp hi).resolve_right hv
      subst hiv
      rw [backE_out hv] at h1
      by_cases hl : i < e.length
      · rw [List.getElem?_set_self hl] at h1
        cases h0 : e₀[i]? with
        | none => rw [h0] at h1; cases h1
        | some o => rw [h0] at h1; simpa using h1
      · rw [List.getElem?_eq_none (by simpa using hl)] at h1; cases h1
/-- behind a block the slots of own are as they were -/
theorem Good.back {own : List Nat} {σ' : St} {e' : Env} {H' : Hp} {Ls' : Nat → List Addr} {F' : List Addr} (g : Good R σ e H Ls F) (hi : idle own e = true) (g' : Good R σ' e' H' Ls' F') (hw : wipe σ' own = wipe σ own) (s : Step H (Bn R Ls F) H' (Bn R Ls' F') F) :
    Good R σ (backE own e e') H' (wipeL own Ls') F' ∧ Step H' (Bn R Ls' F') H' (Bn R (wipeL own Ls') F') F' := by
  obtain ⟨g2, s2⟩ := g'.forget (own := own)
  have hlen : σ'.length = σ.length := by
    have := congrArg List.length hw
    rwa [wipe_length, wipe_length] at this
  refine ⟨⟨by rw [backE_len, g'.len]; exact hlen, fun i n d h => ?_, g2.nd, g2.dis, g2.fr, g2.fd, g2.has, g2.rnd, g2.ra⟩, s2⟩
  by_cases ho : i ∈ own
  · have h0 := backE_in ho h
    obtain ⟨v, e1, r⟩ := g.rep i n d h0
    have hz : n = 0 := by
      have z := List.all_eq_true.mp hi i ho
      rw [h0] at z
      simpa using z
    subst hz
    have hL := Rep.zero d v _ r
    refine ⟨v, e1, ?_⟩
    have : wipeL own Ls' i = [] := by unfold wipeL; rw [if_pos ho]
    rw [this]
    rw [hL] at r
    exact Rep.by (L := []) s2 (fun _ z => nomatch z) (Rep.by (L := []) s (fun _ z => nomatch z) r)
  · rw [backE_out ho] at h
    obtain ⟨v, e1, r⟩ := g'.rep i n d h
    have hs : σ[i]? = σ'[i]? := by
      have this : (wipe σ' own)[i]? = (wipe σ own)[i]? := by rw [hw]
      rw [wipe_get ho, wipe_get ho] at this
      exact this.symm
    refine ⟨v, by rw [hs]; exact e1, ?_⟩
    have : wipeL own Ls' i = Ls' i := by unfold wipeL; rw [if_neg ho]
    rw [this]
    exact r.by s2 fun _ _ => rfl

/-- a list that is held apart is changed -/
theorem Good.heldL {A : Addr} {av ys : List V} (g : Good R σ e H Ls ([A] ++ F)) (hA : H A = some (.lst av)) : Good R σ e (upd H A (.lst ys)) Ls ([A] ++ F) ∧ Step H (Bn R Ls ([A] ++ F)) (upd H A (.lst ys)) (Bn R Ls ([A] ++ F)) F := by
  have nF : A ∉ F := (List.nodup_cons.mp g.fd).1
  have mem : A ∈ [A] ++ F := by simp
  have nL : ∀ i, A ∉ Ls i := fun i z => g.fr i A z mem
  have nra : ∀ b, RnA R b → b ≠ A := fun b hb z => (g.ra b hb).1 (by rw [z]; exact mem)
  have st : Step H (Bn R Ls ([A] ++ F)) (upd H A (.lst ys)) (Bn R Ls ([A] ++ F)) F :=
    ⟨fun b o q nb => by rw [upd_ne fun z => nb (by rw [z]; exact .inl mem)]; exact q, fun b hb => upd_ne fun z => nF (by rw [← z]; exact hb), fun b hb => .inl hb⟩
  refine ⟨⟨g.len, fun j m d' h => ?_, g.nd, g.dis, g.fr, g.fd, fun b hb => ?_, ?_, g.ra⟩, st⟩
  · obtain ⟨v', e2, r'⟩ := g.rep j m d' h
    exact ⟨v', e2, r'.by st fun b hb => upd_ne fun z => nL j (by rw [← z]; exact hb)⟩
  · by_cases hb' : b = A
    · rw [hb']; exact ⟨_, upd_same⟩
    · obtain ⟨o, q⟩ := g.has b hb
      exact ⟨o, by rw [upd_ne hb']; exact q⟩
  · have h := g.rnd
    unfold RndOk at h ⊢
    cases hR : R.r with
    | none => trivial
    | some r =>
      rw [hR] at h
      obtain ⟨i, m, cs, tl, h1, h2, h3, h4⟩ := h
      exact ⟨i, m, cs, tl, h1, by rw [upd_ne (nra _ ⟨r, hR, .inl rfl⟩)]; exact h2, by rw [upd_ne (nra _ ⟨r, hR, .inr rfl⟩)]; exact h3, h4⟩

/-! ### tests of a comprehension -/
def JTs (g : Cg) (X : Cx) (as : List Expr) (es : Es) : Prop := PTs X as (tT g.R g.W (evTs g.sub g.F es))
theorem _root_.L2.PTs.imp {X : Cx} {a : List Expr} {t u : TT} (h : PTs X a t) (f : ∀ σ H Q, u σ H Q → t σ H Q) : PTs X a u := ⟨fun pins s σ H Q I z => h.run pins s σ H Q I (f _ _ _ z)⟩
theorem jts_nil : JTs g X [] .nil := pts_nil.imp fun σ H Q z => by
  obtain ⟨e, Ls, F, G, h⟩ := z
  exact h H Ls .refl G
theorem jts_one {a : Expr} {x : E} (ha : JE g X a x) : JTs g X [a] (.cons x .nil) := PTs.imp (pts_one ha.tst) fun σ H Q z => by
  obtain ⟨e, Ls, F, G, h⟩ := z
  refine ⟨e, Ls, F, G, (all_mb.mp h).mono fun r hr => ?_⟩
  match r, hr with
  | .ok true e', hr => exact fun H' Ls' s gd => hr H' Ls' s gd
  | .ok false e', hr => exact fun H' Ls' s gd => hr H' Ls' s gd
  | .err x e', hr => exact hr
  | .no, hr => exact hr

/-! ### the block -/
def wNo : WD := fun _ _ _ _ _ => False
theorem blk_all {α β : Type} {own : List Nat} {m : M α} {f : α → M β} {P : Rs β → Prop} (h : (mb (blkE own m) f e).All P) (hn : ¬ P .no) : idle own e = true ∧ (m e).All fun r => match r with
    | .ok a e' => (f a (backE own e e')).All P
    | _ => False := by
  have h0 := all_mb.mp h
  unfold blkE at h0
  split at h0
  · rename_i hi
    refine ⟨hi, (Tr.all_bind.mp h0).mono fun r hr => ?_⟩
    match r, hr with
    | .ok a e', hr => exact hr
    | .err x e', hr => exact hn hr
    | .no, hr => exact hn hr
  · exact absurd h0 hn
def PLc (R : Rn) (W : WD) (σ : St) (H : Hp) (B : Addr → Prop) (F : List Addr) (Q : VK) (own : List Nat) (e0 : Env) : Rs (List D) → Prop
  | .ok a e2 => (pu (1, D.lst a) (backE own e0 e2)).All (PostV R W σ H B F Q)
  | _ => False
/-- what is wanted of a comprehension's loop, from turn i on -/
structure LcAt (R : Rn) (tg own : List Nat) (test : M Bool) (elt : M (Nat × D)) (P : Rs (List D) → Prop) (H0 : Hp) (B0 : Addr → Prop) (F : List Addr) (A : Addr) (T : Hp → (Addr → Prop) → Prop) (xs : List D) (σ : St) (i : Nat) (H : Hp) : Prop where
  ex : ∃ e Ls acc av σ', wipe σ' own = wipe σ own ∧ Good R σ' e H Ls ([A] ++ F) ∧ Step H0 B0 H (Bn R Ls ([A] ++ F)) F ∧ T H (Bn R Ls ([A] ++ F)) ∧ H A = some (.lst av) ∧ Reps R H (Bn R Ls ([A] ++ F)) 0 acc av [] ∧ (compE tg own test elt (xs.drop i) acc e).All P
theorem lc_run {it : It} {es : Es} {tg own : List Nat} {test : M Bool} {elt : M (Nat × D)} {Q : VK} (hto : ∀ i ∈ tg, i ∈ own)
    (h : tV R W (mb (evPs sub g.F es) fun ps => mb (vlPs ps) fun l => mb (op (isem it (l.map (·.2)))) fun xs => mb (blkE own (compE tg own test elt xs [])) fun r => pu (1, .lst r)) σ H Q) :
    tLc (tI R W (itM sub g.F it es)) (tG R tg) (tT R wNo test) (tV R wNo elt) own σ H Q := by
  have eq : (mb (evPs sub g.F es) fun ps => mb (vlPs ps) fun l => mb (op (isem it (l.map (·.2)))) fun xs => mb (blkE own (compE tg own test elt xs [])) fun r => pu (1, D.lst r)) = mb (itM sub g.F it es) fun xs => mb (blkE own (compE tg own test elt xs [])) fun r => pu (1, D.lst r) := by
    unfold itM
    simp only [mb_assoc]
  rw [eq] at h
  obtain ⟨e, Ls, F, G, h⟩ := h
  refine ⟨e, Ls, F, G, (all_mb.mp h).mono fun r hr => ?_⟩
  match r, hr with
  | .err x e', hr => exact hr
  | .no, hr => exact hr
  | .ok xs e', hr =>
    intro J T H1 Ls1 s1 g1 ok t1 A hA
    obtain ⟨hid, hr⟩ := blk_all hr no_V
    have hr : (compE tg own test elt (xs.drop 0) [] e').All (PLc R W σ H (Bn R Ls F) F Q own e') := hr.mono fun r z => match r, z with
      | .ok a e2, z => z
      | .err _ _, z => z
      | .no, z => z
    obtain ⟨gA, sA⟩ := g1.newL (xs := []) hA
    refine ⟨fun i m H' => i ≤ xs.length ∧ m = xs.length - i ∧ LcAt R tg own test elt (PLc R W σ H (Bn R Ls F) F Q own e') H1 (Bn R Ls1 F) F A T xs σ i H', ⟨xs.length, by omega, by omega, ⟨e', Ls1, [], [], σ, rfl, gA, sA, ok.stay _ _ _ _ _ t1 sA, upd_same, .nil, hr⟩⟩, ?_⟩
    rintro i m H' ⟨hi, rfl, ⟨e2, Ls2, acc, av, σ', hw, g2, s2, t2, hav, hacc, h2⟩⟩
    by_cases hlt : i < xs.length
    · refine .inr ⟨ok.go i H' _ _ t2 (List.getElem?_eq_getElem hlt), fun H'' => i + 1 ≤ xs.length ∧ LcAt R tg own test elt (PLc R W σ H (Bn R Ls F) F Q own e') H1 (Bn R Ls1 F) F A T xs σ (i + 1) H'', fun H'' ⟨q1, q2⟩ => ⟨xs.length - (i + 1), by omega, q1, rfl, q2⟩, fun v H3 y => ?_⟩
      obtain ⟨hH, rp⟩ := ok.yld i H' _ _ v H3 t2 (List.getElem?_eq_getElem hlt) g2.has y
      have key : Good R σ' e2 H3 Ls2 ([A] ++ F) ∧ Step H' (Bn R Ls2 ([A] ++ F)) H3 (Bn R Ls2 ([A] ++ F)) ([A] ++ F) := by
        rcases hH with rfl | ⟨p, o, hp, rfl⟩
        · exact ⟨g2, .refl⟩
        · exact g2.newT hp
      obtain ⟨g3, s3⟩ := key
      obtain ⟨g4, s4⟩ := g3.forget (own := own)
      rw [hw] at g4
      have s34 := s3.trans s4 fun a z => z
      have t4 := ok.stay _ _ _ _ _ t2 s34
      have hav4 : H3 A = some (.lst av) := (s34.frm A (by simp)).trans hav
      have hacc4 := Reps.by (L := []) s34 (fun _ z => nomatch z) hacc
      have s04 : Step H1 (Bn R Ls1 F) H3 (Bn R (wipeL own Ls2) ([A] ++ F)) F := s2.trans s34 fun a z => List.mem_append_right _ z
      rw [List.drop_eq_getElem_cons hlt] at h2
      have h2 : (mb (bindT tg xs[i]) (fun _ => mb test fun t => if t = true then mb elt fun y => tst (decide (acc.length < sizeLine)) (compE tg own test elt (xs.drop (i + 1)) (acc ++ [y.2])) else compE tg own test elt (xs.drop (i + 1)) acc) (wipeE own e2)).All _ := h2
      refine ⟨xs[i], _, _, [A] ++ F, g4, Rep.by (L := []) s4 (fun _ z => nomatch z) rp, (all_mb.mp h2).mono fun r hr => ?_⟩
      match r, hr with
      | .err x e', hr => trivial
      | .no, hr => exact hr
      | .ok _ e3, hr =>
        intro σ5 Ls5 ho s5 g5
        have hw5 : wipe σ5 own = wipe σ own := (ho own hto).trans wipe_wipe
        have s05 := s04.trans s5 fun a z => List.mem_append_right _ z
        have t5 := ok.stay _ _ _ _ _ t4 s5
        have hacc5 := Reps.by (L := []) s5 (fun _ z => nomatch z) hacc4
        refine ⟨hw5, e3, Ls5, [A] ++ F, g5, (all_mb.mp hr).mono fun r hr => ?_⟩
        match r, hr with
        | .err x e', hr => exact hr.elim
        | .no, hr => exact hr
        | .ok b e4, hr =>
          intro H6 Ls6 s6 g6
          have t6 := ok.stay _ _ _ _ _ t5 s6
          have hav6 : H6 A = some (.lst av) := (s6.frm A (by simp)).trans hav4
          have hacc6 := Reps.by (L := []) s6 (fun _ z => nomatch z) hacc5
          have s06 := s05.trans s6 fun a z => List.mem_append_right _ z
          cases b with
          | false => exact ⟨hlt, ⟨e4, Ls6, acc, av, σ5, hw5, g6, s06, t6, hav6, hacc6, hr⟩⟩
          | true =>
            refine ⟨e4, Ls6, [A] ++ F, g6, (all_mb.mp hr).mono fun r hr => ?_⟩
            match r, hr with
            | .err x e', hr => exact hr.elim
            | .no, hr => exact hr
            | .ok y e5, hr =>
              intro w H7 Ls7 Lt7 s7 g7 r7
              obtain ⟨hz, h8⟩ := tst_all hr (fun z => z)
              obtain ⟨g8, s8', r8⟩ := g7.froze s7 r7
              have s8 : Step H6 (Bn R Ls6 ([A] ++ F)) H7 (Bn R Ls7 ([A] ++ F)) ([A] ++ F) := s8'
              have hav8 : H7 A = some (.lst av) := (s8.frm A (by simp)).trans hav6
              have hacc8 := Reps.by (L := []) s8 (fun _ z => nomatch z) hacc6
              have t8 := ok.stay _ _ _ _ _ t6 s8
              have s08 := s06.trans s8 fun a z => List.mem_append_right _ z
              have hlen : av.length < sizeLine := by rw [hacc8.length]; exact of_decide_eq_true hz
              obtain ⟨g9, s9⟩ := g8.heldL (ys := av ++ [w]) hav8
              exact ⟨av, hav8, hlen, hlt, ⟨e5, Ls7, acc ++ [y.2], av ++ [w], σ5, hw5, g9, s08.trans s9 fun a z => z, ok.stay _ _ _ _ _ t8 s9, upd_same, Reps.by (L := []) s9 (fun _ z => nomatch z) (hacc8.app (.cons r8 .nil)), h8⟩⟩
    · have hn : xs.drop i = [] := List.drop_eq_nil_of_le (by omega)
      rw [hn] at h2
      have h2 : PostV R W σ H (Bn R Ls F) F Q (.ok (1, D.lst acc) (backE own e' e2)) := h2
      obtain ⟨gb, sb⟩ := g1.back hid g2 hw s2
      refine .inl ⟨ok.stp i H' _ t2 (by omega), h2 (.ref A) H' _ [A] ((s1.trans s2 fun a z => z).trans (F1 := F) ⟨sb.ext, fun a z => rfl, sb.bn⟩ fun a z => z) gb ?_⟩
      simp only [Rep]
      exact ⟨A, av, [], rfl, hav, rfl, Reps.by (L := []) sb (fun _ z => nomatch z) hacc⟩

/-! ### the rules -/
/-- the context of a block -/
theorem Cok.blk (C : Cok X) (s : Shared) (H : Hp) (scope : Scope) (cenv : PySem.Env) (fp : List Addr) : Cok (X.blk s H scope cenv fp) := ⟨C.calm, C.un, C.gd, C.nd, PassesOwn.never⟩
/-- .. inside of it no error leaves -/
abbrev Cg.inn (g : Cg) : Cg := { g with W := wNo }
section
variable {elt tg iter : Expr} {ifs : List Expr} {scope : Scope} {own : List (Str × Nat)} {pos : Pos} {o : It} {es cs : Es} {x : E} {is : List Nat}
theorem lc_val (C : Cok X) (hi : JI g X tg iter o es)
    (hg : ∀ (s : Shared) (H : Hp) (A : Addr) (cl : List (Str × Addr)) (fp : List Addr), Cok (X.blk s H scope (compEnvC scope cl A X.env) fp) → JG g.inn (X.blk s H scope (compEnvC scope cl A X.env) fp) tg is)
    (ht : ∀ (s : Shared) (H : Hp) (A : Addr) (cl : List (Str × Addr)) (fp : List Addr), Cok (X.blk s H scope (compEnvC scope cl A X.env) fp) → JTs g.inn (X.blk s H scope (compEnvC scope cl A X.env) fp) ifs cs)
    (he : ∀ (s : Shared) (H : Hp) (A : Addr) (cl : List (Str × Addr)) (fp : List Addr), Cok (X.blk s H scope (compEnvC scope cl A X.env) fp) → JE g.inn (X.blk s H scope (compEnvC scope cl A X.env) fp) elt x)
    (ok : BlkOk X.N X.env.scope scope own := by exact blkOk_by (by rfl)) (hto : ∀ i ∈ is, i ∈ own.map (·.2) := by decide) (hs : ∀ x, foldedSetIterable iter X.env x = pure x := by intro _; rfl) : JE g X (.ListComp elt [⟨tg, iter, ifs, 0⟩] scope pos) (.lc own is o es cs x) :=
  .of ((pe_lc C.calm C.nd hi ok (fun s H A cl fp => hg s H A cl fp (C.blk ..)) (fun s H A cl fp => ht s H A cl fp (C.blk ..)) (fun s H A cl fp => (he s H A cl fp (C.blk ..)).val) hs).imp fun σ H Q z => lc_run hto z) (fun _ => rfl) rfl fun _ => rfl
theorem js_asgLc {y : Str} {i : Nat} {p spos : Pos} (C : Cok X)
    (hi : JI g X tg iter o es)
    (hg : ∀ (s : Shared) (H : Hp) (A : Addr) (cl : List (Str × Addr)) (fp : List Addr), Cok (X.blk s H scope (compEnvC scope cl A X.env) fp) → JG g.inn (X.blk s H scope (compEnvC scope cl A X.env) fp) tg is)
    (ht : ∀ (s : Shared) (H : Hp) (A : Addr) (cl : List (Str × Addr)) (fp : List Addr), Cok (X.blk s H scope (compEnvC scope cl A X.env) fp) → JTs g.inn (X.blk s H scope (compEnvC scope cl A X.env) fp) ifs cs)
    (he : ∀ (s : Shared) (H : Hp) (A : Addr) (cl : List (Str × Addr)) (fp : List Addr), Cok (X.blk s H scope (compEnvC scope cl A X.env) fp) → JE g.inn (X.blk s H scope (compEnvC scope cl A X.env) fp) elt x)
    (hy : X.N[i]? = some y := by rfl) (hyl : X.env.scope.names.lookup y = some .local := by rfl) (hsw : swapsWith (.ListComp elt [⟨tg, iter, ifs, 0⟩] scope pos) (some (.Name y p)) spos.line X.env = pure true := by exact sw_true rfl rfl rfl rfl)
    (ok : BlkOk X.N X.env.scope scope own := by exact blkOk_by (by rfl)) (hto : ∀ i ∈ is, i ∈ own.map (·.2) := by decide) (hs : ∀ x, foldedSetIterable iter X.env x = pure x := by intro _; rfl) : JS g X (.Assign [.Name y p] (.ListComp elt [⟨tg, iter, ifs, 0⟩] scope pos) spos) (.asg i (.lc own is o es cs x)) :=
  ⟨(ps_setLc C.calm C.nd hy hyl hsw hi ok (fun s H A cl fp => hg s H A cl fp (C.blk ..)) (fun s H A cl fp => ht s H A cl fp (C.blk ..)) (fun s H A cl fp => (he s H A cl fp (C.blk ..)).val) hs).imp fun D σ H z => by
    obtain ⟨e, Ls, F, G, h⟩ := z
    refine lc_run (W := g.W) (sub := g.sub) (own := own.map (·.2)) hto ⟨e, Ls, F, G, (all_mb.mp h).mono fun r hr => ?_⟩
    match r, hr with
    | .err x e', hr => exact err_S hr
    | .no, hr => exact hr
    | .ok r e', hr =>
      intro v H' Ls' Lt s gd rp
      obtain ⟨hl, h2⟩ := setE_all (P := fun r => (mk (fun _ => pu .nx) r).All (PostS _ _ _ _ _ D)) (all_mb.mp hr) no_S
      obtain ⟨g', s'⟩ := gd.put rp hl
      exact h2 _ H' _ (s.trans s' fun a z => z) g'⟩
end
end
end G

set_option maxHeartbeats 1000000
/-! G.Snd11: calls; a def. -/
namespace G
open PySem L2 PyProof.Rows
section
variable {g : Cg} {X : Cx} {R : Rn} {W : WD} {σ : St} {e : Env} {H : Hp} {Ls : Nat → List Addr} {F : List Addr} {sub : Nat → List Nat}
def nL : Nat → List Addr := fun _ => []
/-- all that a body owns -/
def ownL (n : Nat) (Ls : Nat → List Addr) : List Addr := (List.range n).flatMap Ls
def trimL (n : Nat) (Ls : Nat → List Addr) : Nat → List Addr := fun i => if i < n then Ls i else []
theorem trimL_mem {n i : Nat} {a : Addr} (h : a ∈ trimL n Ls i) : i < n ∧ a ∈ Ls i := by
  unfold trimL at h
  split at h
  · rename_i hi; exact ⟨hi, h⟩
  · cases h
theorem bn_trim {n : Nat} {a : Addr} (h : Bn R (trimL n Ls) F a) : Bn R Ls F a := by
  rcases h with h | ⟨i, h⟩ | h
  · exact .inl h
  · exact .inr (.inl ⟨i, (trimL_mem h).2⟩)
  · exact .inr (.inr h)
theorem Good.trim (g : Good R σ e H Ls F) : Good R σ e H (trimL σ.length Ls) F ∧ Step H (Bn R Ls F) H (Bn R (trimL σ.length Ls) F) F := by
  have st : Step H (Bn R Ls F) H (Bn R (trimL σ.length Ls) F) F := ⟨fun _ _ e _ => e, fun _ _ => rfl, fun a h => .inl (bn_trim h)⟩
  refine ⟨⟨g.len, fun i n d h => ?_, fun i => ?_, fun i j hij a ha hb => g.dis i j hij a (trimL_mem ha).2 (trimL_mem hb).2, fun i a ha => g.fr i a (trimL_mem ha).2, g.fd, fun a h => g.has a (bn_trim h), g.rnd, fun a h => ⟨(g.ra a h).1, fun i z => (g.ra a h).2 i (trimL_mem z).2⟩⟩, st⟩
  · obtain ⟨v, e1, r⟩ := g.rep i n d h
    refine ⟨v, e1, ?_⟩
    have : trimL σ.length Ls i = Ls i := by unfold trimL; rw [if_pos (List.getElem?_eq_some_iff.mp e1).1]
    rw [this]
    exact r.by st fun _ _ => rfl
  · unfold trimL
    split
    · exact g.nd i
    · exact List.nodup_nil
theorem ownL_mem {n : Nat} {a : Addr} : a ∈ ownL n (trimL n Ls) ↔ ∃ i, a ∈ trimL n Ls i := by
  unfold ownL
  rw [List.mem_flatMap]
  constructor
  · rintro ⟨i, _, h⟩; exact ⟨i, h⟩
  · rintro ⟨i, h⟩; exact ⟨i, List.mem_range.mpr (trimL_mem h).1, h⟩
theorem nodup_own {n : Nat} (nd : ∀ i, (Ls i).Nodup) (dis : ∀ i j, i ≠ j → ∀ a ∈ Ls i, a ∉ Ls j) : ∀ {l : List Nat}, l.Nodup → (l.flatMap Ls).Nodup
  | [], _ => by simp
  | i :: l, h => by
    rw [List.flatMap_cons]
    obtain ⟨h1, h2⟩ := List.nodup_cons.mp h
    refine List.nodup_append.mpr ⟨nd i, nodup_own (n := n) nd dis h2, fun a ha b hb e => ?_⟩
    obtain ⟨j, hj, hb⟩ := List.mem_flatMap.mp hb
    exact dis i j (fun z => h1 (by rw [z]; exact hj)) a ha (by rw [e]; exact hb)
/-- a body's state, seen from a callee -/
theorem Good.seen {n : Nat} (g : Good R σ e H (trimL n Ls) F) : Good R [] [] H nL (ownL n (trimL n Ls) ++ F) ∧ ∀ a, Bn R nL (ownL n (trimL n Ls) ++ F) a ↔ Bn R (trimL n Ls) F a := by
  have hb : ∀ a, Bn R nL (ownL n (trimL n Ls) ++ F) a ↔ Bn R (trimL n Ls) F a := fun a => by
    unfold Bn
    rw [List.mem_append, ownL_mem]
    constructor
    · rintro ((h | h) | ⟨i, h⟩ | h)
      · exact .inr (.inl h)
      · exact .inl h
      · cases h
      · exact .inr (.inr h)
    · rintro (h | h | h)
      · exact .inl (.inr h)
      · exact .inl (.inl h)
      · exact .inr (.inr h)
  refine ⟨⟨rfl, (fun i n d h => by simp at h), fun i => List.nodup_nil, (fun _ _ _ a ha => nomatch ha), (fun i a ha => nomatch ha), ?_, fun a h => g.has a ((hb a).mp h), g.rnd, fun a h => ⟨fun z => ?_, fun i z => nomatch z⟩⟩, hb⟩
  · refine List.nodup_append.mpr ⟨nodup_own (n := n) g.nd g.dis List.nodup_range, g.fd, fun a ha b hb e => ?_⟩
    obtain ⟨i, hi⟩ := ownL_mem.mp ha
    exact g.fr i a hi (by rw [e]; exact hb)
  · rcases List.mem_append.mp z with z | z
    · obtain ⟨i, hi⟩ := ownL_mem.mp z
      exact (g.ra a h).2 i hi
    · exact (g.ra a h).1 z
/-- the slots forgotten -/
theorem Good.close (g : Good R σ e H Ls F) : Good R [] [] H nL F ∧ Step H (Bn R Ls F) H (Bn R nL F) F := by
  have hb : ∀ a, Bn R nL F a → Bn R Ls F a := fun a h => by
    rcases h with h | ⟨i, h⟩ | h
    · exact .inl h
    · cases h
    · exact .inr (.inr h)
  exact ⟨⟨rfl, (fun i n d h => by simp at h), fun i => List.nodup_nil, (fun _ _ _ a ha => nomatch ha), (fun i a ha => nomatch ha), g.fd, fun a h => g.has a (hb a h), g.rnd, fun a h => ⟨(g.ra a h).1, fun i z => nomatch z⟩⟩, ⟨fun _ _ e _ => e, fun _ _ => rfl, fun a h => .inl (hb a h)⟩⟩

/-! ### what a def promises -/
def PostF (R : Rn) (H : Hp) (B : Addr → Prop) (F : List Addr) (Q : VK) (E : XK) : FO → Prop
  | .ok fr d => ∀ v H' Lt, Step H B H' (Bn R nL (Lt ++ F)) F → Good R [] [] H' nL (Lt ++ F) → Rep R H' (Bn R nL (Lt ++ F)) (if fr = true then top d else 0) d v Lt → Q v H'
  | .err x => ∀ H', Step H B H' (Bn R nL F) F → Good R [] [] H' nL F → ∀ cls dd, XRep R H' (Bn R nL F) x cls dd → E cls dd H'
  | .no => False
def fspR (R : Rn) (n : Nat) (f : Fn) : Sp := fun vs H Q E => ∃ ds F, Good R [] [] H nL F ∧ Reps R H (Bn R nL F) 0 ds vs [] ∧ ds.length = n ∧ (f ds).All (PostF R H (Bn R nL F) F Q E)
def fsp (ok : Rn → Prop) (n : Nat) (f : Fn) : Sp := fun vs H Q E => ∃ R, ok R ∧ fspR R n f vs H Q E
structure FnG (P : Program) (w : World) (K : PySem.W.Frag) (mg : Str → Option Value) (base : Heap) (k : Nat) (f : Addr) (fd : FuncData) (ps : List Str) (sp : Sp) : Prop where
  len : ∀ vs H Q E, sp vs H Q E → vs.length = ps.length
  run : ∀ (A : Around) (outer : List PySem.Env) (s : Shared) (H : Hp) (args : Args) (us : List Value) (vs : List V) (Q : VK) (E : XK), Room k A → A.guards = some [] → Env0 P w K mg base A outer s H → BindsTo s fd args (ps.zip us) → Vals vs us → sp vs H Q E →
    codeAny (model P w) A (.call (.ref f) args) (CR (L2.CX P w) outer P w H s Q E) s
/-- what is wanted of errors, as the library has it -/
def wX (W : WD) : WX := fun cls d σ H => ∃ x, W x cls d σ H
theorem takes_wNo {X : Cx} : Takes X (wX wNo) := fun _ _ x => by
  obtain ⟨_, _, _, _, _, _, _, _, _, _, _, _, _, _, _, _, _, z⟩ := x
  exact z.elim
/-- a callee's end is ours -/
theorem callF_run {j : Nat} {es : Es} {ord : List Nat} {n : Nat} {ok : Rn → Prop} {Q : VK} (hR : ok g.R) (hord : ord = List.range n) (h : tV g.R g.W (ev g.sub g.F (.f j es [] ord)).val σ H Q) :
    tCallS (fsp ok n (g.F j)) (WE (wX g.W)) (tA g.R g.W (evPs g.sub g.F es)) σ H Q := by
  subst hord
  refine vl_run h fun l e' vs H' H0 B0 Ls' F h st gd rp => ?_
  obtain ⟨hl, h⟩ := tst_all h no_V
  have hl : l.length = n := by simpa using hl
  have hp : permD l (List.range n) = l.map (·.2) := by
    unfold permD
    apply List.ext_getElem
    · simp [hl]
    · intro i h1 h2
      simp only [List.getElem_map, List.getElem_range]
      have : i < l.length := by simpa using h2
      rw [List.getD_eq_getElem?_getD, List.getElem?_eq_getElem this]
      rfl
  rw [hp] at h
  obtain ⟨gt, sT⟩ := gd.trim
  have rp := Reps.by (L := []) sT (fun _ z => nomatch z) rp
  have st := st.trans sT fun a z => z
  obtain ⟨gs, hb⟩ := gt.seen
  generalize trimL σ.length Ls' = L1 at gt sT rp st gs hb
  generalize hA : ownL σ.length L1 ++ F = A at gs hb
  have subF : ∀ a ∈ F, a ∈ A := fun a z => by rw [← hA]; exact List.mem_append_right _ z
  have subL : ∀ i, ∀ a ∈ L1 i, a ∈ A := fun i a z => by
    have := (hb a).mpr (.inr (.inl ⟨i, z⟩))
    rcases this with q | ⟨i, q⟩ | q
    · exact q
    · cases q
    · exact absurd z ((gt.ra a q).2 i)
  refine ⟨g.R, hR, l.map (·.2), A, gs, Reps.by (L := []) (F := []) (Step.of_iff hb) (fun _ z => nomatch z) rp, by simpa using hl, ?_⟩
  have h2 : (g.F j (l.map (·.2))).All fun r => (foE r e').All (PostV g.R g.W σ H0 B0 F Q) := by
    have h3 : ((g.F j (l.map (·.2))).bind fun a => Tr.ret (Rs.ok a e')).All (fun r => (mk foE r).All (PostV g.R g.W σ H0 B0 F Q)) := all_mb.mp h
    exact (Tr.all_bind (f := fun a => Tr.ret (Rs.ok a e'))).mp h3
  refine h2.mono fun r hr => ?_
  match r, hr with
  | .no, hr => exact hr
  | .ok fr d, hr =>
    intro v H2 Lt s2 g2 r2
    have hb2 : ∀ a, Bn g.R L1 (Lt ++ F) a ↔ Bn g.R nL (Lt ++ A) a := fun a => by
      constructor
      · rintro (z | ⟨i, z⟩ | z)
        · rcases List.mem_append.mp z with z | z
          · exact .inl (List.mem_append_left _ z)
          · exact .inl (List.mem_append_right _ (subF a z))
        · exact .inl (List.mem_append_right _ (subL i a z))
        · exact .inr (.inr z)
      · rintro (z | ⟨i, z⟩ | z)
        · rcases List.mem_append.mp z with z | z
          · exact .inl (List.mem_append_left _ z)
          · rcases (hb a).mp (.inl z) with y | y
            · exact .inl (List.mem_append_right _ y)
            · exact .inr y
        · cases z
        · exact .inr (.inr z)
    have s3 : Step H' (Bn g.R L1 F) H2 (Bn g.R L1 (Lt ++ F)) F := ⟨fun a o q nb => s2.ext a o q fun z => nb ((hb a).mp z), fun a z => s2.frm a (subF a z), fun a z => (s2.bn a ((hb2 a).mp z)).imp (fun y => (hb a).mp y) id⟩
    have nd2 := List.nodup_append.mp g2.fd
    have g3 : Good g.R σ e' H2 L1 (Lt ++ F) := gt.step s3 (fun i a z => s2.frm a (subL i a z)) g2.rnd nd2.1 (fun a z => ⟨?_, g2.has a (.inl (List.mem_append_left _ z))⟩) fun a z => g2.has a (.inr (.inr z))
    · exact hr v H2 L1 Lt (st.trans s3 fun a z => z) g3 (Rep.by (F := []) (Step.of_iff hb2) (fun _ _ => rfl) r2)
    · rcases s2.bn a (.inl (List.mem_append_left _ z)) with y | y
      · exfalso
        rcases y with y | ⟨i, y⟩ | y
        · exact nd2.2.2 a z a y rfl
        · cases y
        · exact (g2.ra a y).1 (List.mem_append_left _ z)
      · exact y
  | .err x, hr =>
    intro H2 s2 g2 cls dd x2
    have s3 : Step H' (Bn g.R L1 F) H2 (Bn g.R L1 F) F := ⟨fun a o q nb => s2.ext a o q fun z => nb ((hb a).mp z), fun a z => s2.frm a (subF a z), fun a z => .inl z⟩
    have g3 : Good g.R σ e' H2 L1 ([] ++ F) := gt.step (Lt := []) s3 (fun i a z => s2.frm a (subL i a z)) g2.rnd List.nodup_nil (fun a z => nomatch z) fun a z => g2.has a (.inr (.inr z))
    exact ⟨x, hr H2 L1 (st.trans s3 fun a z => z) g3 cls dd (x2.by (F := []) (Step.of_iff fun a => (hb a).symm))⟩
section
variable {k n j : Nat} {f : Addr} {fd : FuncData} {ps : List Str} {sp : Sp} {x : Str} {p pos : Pos} {a : Expr} {as : List Expr} {es : Es} {ord : List Nat} {ok : Rn → Prop}
theorem run_g {pins : List (Addr × Obj)} {s : Shared} {Q : VK} {E : XK} {us : List Value} {vs : List V} (C : Cok X) (FG : FnG X.prog X.w X.K X.mg X.base k f fd ps sp) (hr : Room k X.A) (hb : L2.Binds X.K fd ps []) (hx : PassesAt (L2.CX X.prog X.w) X σ E) (I : Inv X pins σ H s) (r : Vals vs us) (h : sp vs H Q E) :
    wpAny (model X.prog X.w) X.A (call (.ref f) us) (EP X pins σ Q) X.xe s := by
  have hl : us.length = ps.length := r.length.symm.trans (FG.len _ _ _ _ h)
  have b := hb s us I.kIn (by rw [List.append_nil]; exact hl)
  rw [List.append_nil] at b
  refine wpAny_call (codeAny_mono (FG.run X.A X.stack s H ⟨us, []⟩ us vs Q E hr C.gd I.env0 b r h) fun r s' hq => ?_)
  match r, hq with
  | .error e, hq => exact hx pins H s e s' I hq
  | .ok (.ret u), hq => exact I.after hq
  | .ok .next, hq => exact hq.elim
  | .ok .brk, hq => exact hq.elim
  | .ok .cont, hq => exact hq.elim
theorem je_call {fj : Fn} (C : Cok X) (FG : FnG X.prog X.w X.K X.mg X.base k f fd ps (fsp ok n fj)) (hF : g.F j = fj) (hR : ok g.R) (tk : Takes X (wX g.W)) (hr : Room k X.A) (hg : Gl X x) (hm : X.mg x = some (.ref f)) (hk : PySem.W.keepIn X.K (.ref f) = true) (hb : L2.Binds X.K fd ps []) (ha : JA g X (a :: as) es)
    (hord : ord = List.range n := by decide) (hdb : (x == ("__debug__" : Str)) = false := by decide) (z : Pl1 X pos a as := by exact {}) : JE g X (.Call (.Name x p) (a :: as) [] pos) (.f j es [] ord) := by
  subst hF
  have hv : PE X (.Call (.Name x p) (a :: as) [] pos) (tCallS (fsp ok n (g.F j)) (WE (wX g.W)) (tA g.R g.W (evPs g.sub g.F es))) := by
    refine ⟨fun pins s σ H Q I h => wpAny_Call_Name_kw (ld_glob I hg hm ?_ hdb)⟩
    exact PySem.W.callWith_K (h₀ := X.base) I.ok.mod.kin hk (thn (ha.run pos pins s σ H _ I h) fun us s1 ⟨vs, H1, I1, r, q⟩ => ⟨I1.kIn, run_g C FG hr hb (passAt tk σ) I1 r q⟩) z.he z.hpl
  exact .of (hv.imp fun σ H Q z => callF_run hR hord z) (fun _ => rfl) rfl fun _ => rfl
end

/-! ### a def by its body -/
theorem good_start {ds : List D} {vs : List V} {n : Nat} (g : Good R [] [] H nL F) (r : Reps R H (Bn R nL F) 0 ds vs []) (hn : ds.length ≤ n) : Good R (vs.map some ++ List.replicate (n - vs.length) none) (ds.map (fun d => some (0, d)) ++ List.replicate (n - ds.length) none) H nL F := by
  have hl := r.length
  refine ⟨by simp [hl], fun i m d h => ?_, g.nd, g.dis, g.fr, g.fd, g.has, g.rnd, g.ra⟩
  by_cases hi : i < ds.length
  · rw [List.getElem?_append_left (by simpa using hi), List.getElem?_map, Option.map_eq_some_iff] at h
    obtain ⟨d', h1, h2⟩ := h
    cases h2
    obtain ⟨v, hv, rv⟩ := r.get h1
    refine ⟨v, ?_, rv⟩
    rw [List.getElem?_append_left (by rw [List.length_map, hl]; exact hi), List.getElem?_map, hv]
    rfl
  · rw [List.getElem?_append_right (by simpa using hi), List.getElem?_replicate] at h
    split at h <;> cases h
theorem fn_run {n : Nat} {body : Ss} {Fs : Nat → Fn} {ds : List D} {vs : List V} {Q : VK} {E : XK} (g : Good R [] [] H nL F) (r : Reps R H (Bn R nL F) 0 ds vs []) (hn : ds.length ≤ n) (h : (fnOf sub Fs n body ds).All (PostF R H (Bn R nL F) F Q E)) :
    tS R (fun _ cls dd _ H => E cls dd H) (evSs sub Fs body) { nx := fun _ H' => Q .non H', rt := Q } (vs.map some ++ List.replicate (n - vs.length) none) H := by
  refine ⟨_, nL, F, good_start g r hn, (Tr.all_bind.mp h).mono fun r hr => ?_⟩
  match r, hr with
  | .ok .nx e, hr =>
    intro σ' H' Ls' s gd
    obtain ⟨gc, sc⟩ := gd.close
    exact hr .non H' [] (s.trans sc fun a z => z) gc (by simp [top, Rep])
  | .ok .bk e, hr => exact hr.elim
  | .ok .ct e, hr => exact hr.elim
  | .ok (.rt m d) e, hr =>
    intro v σ' H' Ls' Lt s gd rp
    by_cases hm : (m == 1 && top d == 1) = true
    · have hm2 : m = 1 ∧ top d = 1 := by simpa using hm
      obtain ⟨gc, sc⟩ := gd.close
      have hr : PostF R H (Bn R nL F) F Q E (.ok (m == 1 && top d == 1) d) := hr
      rw [hm] at hr
      refine hr v H' Lt (s.trans (F1 := F) ⟨sc.ext, fun a z => rfl, sc.bn⟩ fun a z => z) gc ?_
      rw [if_pos rfl, hm2.2, ← hm2.1]
      exact rp.by sc fun _ _ => rfl
    · obtain ⟨gf, sf, rf⟩ := gd.froze s rp
      obtain ⟨gc, sc⟩ := gf.close
      have hr : PostF R H (Bn R nL F) F Q E (.ok (m == 1 && top d == 1) d) := hr
      rw [Bool.not_eq_true] at hm
      rw [hm] at hr
      exact hr v H' [] (sf.trans sc fun a z => z) gc (Rep.by (L := []) sc (fun _ z => nomatch z) rf)
  | .err x e, hr =>
    intro σ' H' Ls' s gd cls dd xr
    obtain ⟨gc, sc⟩ := gd.close
    exact hr H' (s.trans sc fun a z => z) gc cls dd (xr.by sc)
  | .no, hr => exact hr
/-- what a def's body is read with -/
abbrev cgOf (R : Rn) (E : XK) (sub : Nat → List Nat) (Fs : Nat → Fn) : Cg := ⟨R, fun _ cls dd _ H => E cls dd H, sub, Fs⟩
theorem fnG_of {P : Program} {w : World} {K : PySem.W.Frag} {mg : Str → Option Value} {base : Heap} {x qual : Str} {st : Stmt} {f : Addr} {fd : FuncData} {N ps : List Str} {k n : Nat} {ok : Rn → Prop} {Fs : Nat → Fn} {body : Ss} (Fu : Fun K x qual st f fd) (S : FnScope N ps (defScope st)) (hp : ps.length = n)
    (hbody : ∀ (cdv : Value) (A : Around) (outer : List PySem.Env) (s : Shared) (H : Hp) (E : XK) (R : Rn), ok R → Cok (cxOf (L2.CX P w) P w K mg base N qual (defScope st) f cdv A outer s H E) → Room k (A.deeper (envOfC qual (defScope st) s.heap.objs.size f cdv)) →
      Takes (cxOf (L2.CX P w) P w K mg base N qual (defScope st) f cdv A outer s H E) (wX (cgOf R E sub Fs).W) → JSs (cgOf R E sub Fs) (cxOf (L2.CX P w) P w K mg base N qual (defScope st) f cdv A outer s H E) (defBody st) body) :
    FnG P w K mg base (k + 1) f fd ps (fsp ok n (fnOf sub Fs N.length body)) := by
  refine ⟨fun vs H Q E h => ?_, fun A outer s H args us vs Q E hr hgd e0 hb rv h => ?_⟩
  · obtain ⟨R, hR, ds, F, g, r, hl, _⟩ := h
    rw [r.length, hl, hp]
  · obtain ⟨R, hR, ds, F, g, r, hl, h⟩ := h
    obtain ⟨oc, od, kV, doc, pm, an, cdv, ct, osl, rfl, lk, hcd⟩ := Fu.ex
    have hvl : vs.length = ps.length := by rw [r.length, hl, hp]
    have hN : ds.length ≤ N.length := by
      have := congrArg List.length S.pre
      rw [List.length_take] at this
      omega
    refine LamX.run_ofS lk hcd S hr e0 hb rv hvl fun hr' => ?_
    have C : Cok (cxOf (L2.CX P w) P w K mg base N qual (defScope st) f cdv A outer s H E) := ⟨rfl, by have := hr'.un; show (A.deeper (envOfC qual (defScope st) s.heap.objs.size f cdv)).units + 200 < cLine; omega, hgd, S.nd, PassesOwn.leaving⟩
    have tk : Takes (cxOf (L2.CX P w) P w K mg base N qual (defScope st) f cdv A outer s H E) (wX (cgOf R E sub Fs).W) := (takes_of rfl rfl rfl rfl).imp fun c d σ H ⟨_, z⟩ => z
    exact ⟨_, (hbody cdv A outer s H E R hR C hr' tk).run, fn_run g r hN h⟩
end
end G

set_option maxHeartbeats 1000000
/-! G.Snd12: isinstance, repr, xs[::-1]. -/
namespace G
open PySem L2 PyProof.Rows
section
variable {g : Cg} {X : Cx} {R : Rn} {W : WD} {σ : St} {e : Env} {H : Hp} {Ls : Nat → List Addr} {F : List Addr} {sub : Nat → List Nat}
def rIsQ (sub : Nat → List Nat) (ts : List Ty) : V → Hp → VK → Prop := fun x H Q => ∃ (R : Rn) (σ : St) (e : Env) (Ls : Nat → List Addr) (F : List Addr) (n : Nat) (d : D) (L : List Addr), Rep R H (Bn R Ls F) n d x L ∧ (tyD d).isSome = true ∧ (∀ t ∈ ts, t.own = false) ∧ Good R σ e H Ls F ∧ QK R σ e H Ls F 0 (.bl (ts.any fun t => isTy sub t d)) Q
theorem at_isi {ts : List Ty} {one : Bool} {x : V} {Q : VK} (h : At R σ e H Ls F sub (.isi ts one) [x] Q) : rIsQ sub ts x H Q := by
  obtain ⟨n, a, v, L, d, hv, r, hk, hf, k, g⟩ := at_1 (fun _ => rfl) h
  cases hv
  split at hf
  · rename_i hz
    cases hf
    obtain ⟨h1, h2⟩ := Bool.and_eq_true_iff.mp hz
    exact ⟨R, σ, e, Ls, F, n, a, L, r, h1, fun t ht => by simpa using List.all_eq_true.mp h2 t ht, g, k⟩
  · cases hf
/-- a built-in class by its name -/
structure JTy (X : Cx) (a : Expr) (t : Ty) : Prop where
  val : PE X a (tC (.ty t.nm))
section
variable {p pos tpos : Pos} {a b : Expr} {as : List Expr} {x : E} {t : Ty} {ts : List Ty} {k : Nat}
theorem jty_int (hg : Gl X "int") (hm : X.mg "int" = none) : JTy X (.Name "int" p) .int := ⟨pe_bltn hg hm (by rfl) (by rfl)⟩
theorem jty_bool (hg : Gl X "bool") (hm : X.mg "bool" = none) : JTy X (.Name "bool" p) .bool := ⟨pe_bltn hg hm (by rfl) (by rfl)⟩
theorem jty_str (hg : Gl X "str") (hm : X.mg "str" = none) : JTy X (.Name "str" p) .str := ⟨pe_bltn hg hm (by rfl) (by rfl)⟩
theorem jty_list (hg : Gl X "list") (hm : X.mg "list" = none) : JTy X (.Name "list" p) .list := ⟨pe_bltn hg hm (by rfl) (by rfl)⟩
theorem jty_tuple (hg : Gl X "tuple") (hm : X.mg "tuple" = none) : JTy X (.Name "tuple" p) .tuple := ⟨pe_bltn hg hm (by rfl) (by rfl)⟩
theorem jty_dict (hg : Gl X "dict") (hm : X.mg "dict" = none) : JTy X (.Name "dict" p) .dict := ⟨pe_bltn hg hm (by rfl) (by rfl)⟩
theorem jty_set (hg : Gl X "set") (hm : X.mg "set" = none) : JTy X (.Name "set" p) .set := ⟨pe_bltn hg hm (by rfl) (by rfl)⟩
def JTys (X : Cx) (as : List Expr) (ts : List Ty) : Prop := PA X as fun _ H Q => Q (ts.map fun t => V.ty t.nm) H
theorem jtys_nil : JTys X [] [] := pa_nil
theorem jtys_cons (ha : JTy X a t) (hr : JTys X as ts) (hs : starEach (a :: as) X.env = (false, eval a X.env) :: starEach as X.env := by rfl) : JTys X (a :: as) (t :: ts) := PA.imp (pa_cons ha.val hr hs) fun σ H Q z => z
theorem je_isi1 (hg : Gl X "isinstance") (hm : X.mg "isinstance" = none) (ha : JE g X a x) (ht : JTy X b t) (z : Pl1 X pos a [b] := by exact {}) (z2 : starEach [b] X.env = (false, eval b X.env) :: starEach [] X.env := by rfl) :
    JE g X (.Call (.Name "isinstance" p) [a, b] [] pos) (.b (.isi [t] true) (.cons x .nil)) :=
  .of ((pe_callB (cr_isi (sub := g.sub)) hg hm (by rfl) (pa_cons ha.plc (pa_cons ht.val pa_nil z2) z.he) (by decide) (by decide) z.he z.hpl).imp fun σ H Q h => by
    refine tP_mono (b1_run (r := rIsQ g.sub [t]) at_isi h) fun v H1 q => ?_
    obtain ⟨R, σ, e, Ls, F, n, d, L, r, h1, h2, gd, k⟩ := q
    exact ⟨R, _, n, d, v, L, [t], r, h1, h2, .inl ⟨t, rfl, rfl⟩, k.bl gd⟩) (fun _ => rfl) rfl fun _ => rfl
theorem je_isiN (hg : Gl X "isinstance") (hm : X.mg "isinstance" = none) (ha : JE g X a x) (ht : JTys X as ts) (z : Pl1 X pos a [.Tuple as k tpos] := by exact {}) (z2 : starEach [.Tuple as k tpos] X.env = (false, eval (.Tuple as k tpos) X.env) :: starEach [] X.env := by rfl) (hts : decide (ts.length ≤ 1000) = true := by rfl) :
    JE g X (.Call (.Name "isinstance" p) [a, .Tuple as k tpos] [] pos) (.b (.isi ts false) (.cons x .nil)) :=
  .of ((pe_callB (cr_isi (sub := g.sub)) hg hm (by rfl) (pa_cons ha.plc (pa_cons (pe_tup (x1 := k) ht) pa_nil z2) z.he) (by decide) (by decide) z.he z.hpl).imp fun σ H Q h => by
    refine tP_mono (b1_run (r := rIsQ g.sub ts) at_isi h) fun v H1 q => ?_
    obtain ⟨R, σ, e, Ls, F, n, d, L, r, h1, h2, gd, k⟩ := q
    refine ⟨by rw [List.length_map]; exact sz1000 hts, fun tp htp => ?_⟩
    obtain ⟨g', s⟩ := gd.newT (o := .tup (ts.map fun t => V.ty t.nm)) htp
    exact ⟨R, _, n, d, v, L, ts, r.by s (fun b hb => upd_ne fun z => by
      obtain ⟨o, q⟩ := Rep.has n d v L r b hb
      rw [z, htp] at q
      cases q), h1, h2, .inr ⟨tp, rfl, upd_same⟩, k _ _ [] s g' (by simp [Rep])⟩) (fun _ => rfl) rfl fun _ => rfl
/-! ### repr -/
theorem at_repr {vs : List V} {Q : VK} (h : At R σ e H Ls F sub .repr vs Q) : rReprG vs H Q := by
  obtain ⟨n, a, v, L, d, rfl, r, hk, hf, k, g⟩ := at_1 (fun _ => rfl) h
  unfold reprD at hf
  split at hf
  · rename_i p hp
    split at hf
    · rename_i hz
      cases hf
      exact ⟨R, _, n, a, v, L, p, rfl, r, hp, hz.1, hz.2.1, hz.2.2.1, hz.2.2.2, k.str g⟩
    · cases hf
  · cases hf
theorem je_repr {xs : Es} (C : Cok X) (hg : Gl X "repr") (hm : X.mg "repr" = none) (ha : JA g X [a] xs) (z : Pl1 X pos a [] := by exact {}) : JE g X (.Call (.Name "repr" p) [a] [] pos) (.b .repr xs) := je_callB (cr_repr C) at_repr hg hm (by rfl) ha (by decide) (by decide) z.he z.hpl
/-! ### sorted of ints -/
end
end
end G

set_option maxHeartbeats 400000
/-! G.Exn1: errors as data: what the text must say of their classes; isinstance, attributes. -/
namespace PySem.W
open PySem PySem.Spec PySem.Calls PyProof.Rows
section
variable {prog : Program} {w : World} {A : Around} {E : Value → Shared → Prop} {s : Shared} {K : Frag} {x D : Addr} {ox : Obj} {od : Option Obj}
theorem g_data {C : Addr} {nm : Str} {a g : Value} (hc : (clsIn K C).isSome = true) (ha : findIn K (.ref C) nm = some (some a)) (hg : specialIn K a "__get__" = some (some g)) (ht : takesIn K a = some true) : findObj K C od nm = some (.bind g a) := by
  obtain ⟨c, e⟩ := Option.isSome_iff_exists.mp hc
  unfold findObj
  rw [e, Option.bind_some, ha]
  simp [hg, ht]
theorem g_class {Q : Option Value → Shared → Prop} (C : L2.ExcC K D) (X : K.In s.heap) (I : InstAt s.heap x ox D od) (hq : Q (some (.ref D)) { s with toks := s.toks + 1 }) : wpAny (model prog w) A (getAttr? (.ref x) "__class__") Q E s := by
  have z0 : findObj K D od "__class__" = some (.bind (.builtin "getset_descriptor.__get__") (.builtin "object.__class__")) := g_data (by obtain ⟨cd, hc, _⟩ := any_some C.hd; rw [hc]; rfl) C.ha C.hn C.ht
  obtain ⟨hp, g, d, t, os⟩ := s
  have l0 := I.type (M := model prog w)
  have l1 := looks_findIn (M := model prog w) X C.hg
  have l2 := looks_findIn (M := model prog w) X C.hk
  have l3 := looks_find (M := model prog w) X I z0
  have sb : Looks (model prog w) hp (isInstance (.ref x) (.type "BaseException")) true := l0.andThen (looks_subIn X C.hs)
  have n0 : (Value.builtin "BaseException.__getattribute__" == Value.builtin "object.__getattribute__") = false := by decide +kernel
  have n1 : (onTheHeap (Value.ref D) && Value.builtin "BaseException.__getattribute__" == Value.builtin "object.__getattribute__") = false := by rw [n0]; rfl
  have n2 : (false && onTheHeap (Value.builtin "BaseException.__getattribute__")) = false := rfl
  unfold getAttr? getAttrBy? getAttrBy
  refine wpAny_bind (wpAny_mkText (wpAny_bind (wpAny_attempt (wpAny_holding (wpAny_bind (l0.at (wpAny_bind (l1.at ?_))))))))
  show wpAny _ _ (if (onTheHeap (Value.ref D) && Value.builtin "BaseException.__getattribute__" == Value.builtin "object.__getattribute__") = true then _ else _) _ _ _
  rw [n1, if_neg Bool.false_ne_true]
  unfold getAttrByItsOwn hookBefore
  refine wpAny_bind ?_
  rw [if_pos (show onTheHeap (Value.ref D) = true from rfl)]
  refine l2.at (wpAny_bind (wpAny_attempt (wpAny_holding ?_)))
  unfold callGetattribute
  rw [n2, if_neg Bool.false_ne_true]
  unfold boundAndCalled
  rw [PySem.F.excAttr_ValueError.ga.bind (.ref x)]
  refine wpAny_bind (wpAny_pure ?_)
  show wpAny _ _ (call (.builtin "BaseException.__getattribute__") [.ref x, .str "__class__" t]) _ _ _
  refine wpAny_call (codeAny_call_builtin PySem.F.excAttr_ValueError.ga.plain PySem.F.entry_bexc_ga ?_)
  refine @check_slot (model prog w) _ _ ⟨hp, g, d, t + 1, os⟩ "BaseException.__getattribute__" "BaseException" "__getattribute__" (.ref x) [.str "__class__" t] [] _ (by decide +kernel) (by decide +kernel) sb (PySem.F.args_bexc_ga (.ref x) (.str "__class__" t)) ?_
  unfold Builtin.«object.__getattribute__»
  refine wpAny_bind (wpAny_of_eq (a := ((Value.ref x : Value), [Value.str "__class__" t])) (by first | rfl | (simp only [slotArgs]; rfl)) (wpAny_bind (wpAny_pure (wpAny_bind (l0.at (wpAny_bind (l3.at ?_)))))))
  show wpAny _ _ (holding [Value.builtin "object.__class__"] (call (.builtin "getset_descriptor.__get__") [.builtin "object.__class__", .ref x, .ref D]) >>= ret) _ _ _
  refine wpAny_bind (wpAny_holding (wpAny_call (class_get (s := ⟨hp, g, d, t + 1, os⟩) (ox := ox) (od := od) X I C.hm (wpAny_pure ?_))))
  show wpAny _ _ (handedOut (.ref D)) _ _ _
  rw [handedOut_of (v := .ref D) rfl]
  first
    | exact wpAny_pure (wpAny_pure hq)
    | exact wpAny_pure hq
    | exact wpAny_pure (wpAny_bind (wpAny_pure (wpAny_pure hq)))
theorem g_kit (C : L2.ExcC K D) : KitX K (.ref x) (.ref D) (fun h => ∃ ox od, InstAt h x ox D od) where
  ty := fun _ _ _ ⟨_, _, I⟩ => I.type
  it := fun _ _ X _ => by
    obtain ⟨cd, hc, _⟩ := any_some C.hd
    unfold clsIn at hc
    split at hc
    · rename_i c' d' cd' sl' ho
      intro A' Q' E' s' k q
      unfold isType loadHead
      exact wpAny_bind (wpAny_loadPart (k _ _ (X _ _ ho)) (wpAny_pure q))
    · cases hc
  ne := fun h tp dd its n sl X htp => by
    obtain ⟨cd, hc, _⟩ := any_some C.hd
    refine Bool.eq_false_iff.mpr fun q => ?_
    obtain rfl : D = tp := Value.ref.inj (beq_iff_eq.mp q)
    unfold clsIn at hc
    split at hc
    · rename_i c' d' cd' sl' ho
      cases (X _ _ ho).symm.trans htp
    · cases hc
  ca := fun X ⟨_, _, I⟩ k => g_class C X I k
end
end PySem.W
namespace G
open PySem L2 PyProof.Rows
/-- what the text says of the classes of errors: where they stand, their fields, their table of sub-classes -/
structure XT (K : PySem.W.Frag) (ca : Nat → Addr) (cf : Nat → List Str) (sub : Nat → List Nat) : Prop where
  ox : ∀ c, (sub c).isEmpty = false → OexC K (ca c)
  ec : ∀ c, (sub c).isEmpty = false → ExcC K (ca c)
  no : ∀ c f, (sub c).isEmpty = false → f ∈ cf c → PySem.W.findIn K (.ref (ca c)) f = some none
  is : ∀ c t, (sub c).isEmpty = false → (sub t).isEmpty = false → PySem.W.kitOne K (.ref (ca c)) (.ref (ca t)) = some ((sub c).contains t)
  ve : ∀ c, (sub c).isEmpty = false → PySem.W.kitOne K (.ref (ca c)) (.type "ValueError") = some true
  ex : ∀ c t, (sub c).isEmpty = false → (sub t).isEmpty = false → PySem.W.exmOne K (.ref (ca c)) (.ref (ca t)) = some ((sub c).contains t)
section
variable {g : Cg} {X : Cx} {R : Rn} {W : WD} {σ : St} {e : Env} {H : Hp} {Ls : Nat → List Addr} {F : List Addr} {sub : Nat → List Nat}
/-- an error in the heap -/
theorem exn_at {pins : List (Addr × Obj)} {s : Shared} {B : Addr → Prop} {a : Addr} {c n : Nat} {dd : Option Addr} {xs : List V} (I : L2.Inv X pins σ H s) (ha : H a = some (ExG (R.ca c) a dd)) (hd : XDict R H B c n dd xs) :
    ∃ ox od, PySem.W.InstAt s.heap a ox (R.ca c) od ∧ (∀ d, dd = some d → ∃ mA o, od = some o ∧ s.heap.Ns1 d mA ∧ (∀ f, RelO (((R.cf c).zip xs).lookup f) (mA f)) ∧ ∀ f, PySem.W.lookIn f o = some (mA f)) := by
  obtain ⟨⟨oe, vs, h1, h2, h3, h4⟩, _⟩ := I.hok a _ ha
  have nc : PySem.W.notCls oe = true := by unfold PySem.W.notCls; rw [h4]
  rcases hd.2 with ⟨_, rfl⟩ | ⟨d, rfl, _, hq⟩
  · exact ⟨oe, none, ⟨h1, h2, nc, by rw [h3]; trivial⟩, fun d z => nomatch z⟩
  · have hx : ObjOk X.prog X.w H s.heap d (.xd ((R.cf c).zip xs)) := I.hok d _ hq
    obtain ⟨mA, hns, hr⟩ := hx
    obtain ⟨o, es, ep, ho, hrest⟩ := id hns
    refine ⟨oe, some o, ⟨h1, h2, nc, by rw [h3]; exact ho⟩, fun d' z => ?_⟩
    cases z
    refine ⟨mA, o, rfl, hns, hr, fun f => ?_⟩
    obtain ⟨o', ho', hl⟩ := lookIn_ns hns
    rw [ho] at ho'
    cases ho'
    exact hl f

/-! ### isinstance -/
/-- a class by its name: one of ours, ValueError -/
def clsV (g : Cg) : Ty → V
  | .cls k => .ref (g.R.ca k)
  | .ve => .ty "ValueError"
  | _ => .non
def rIsx (K : PySem.W.Frag) : List V → Hp → VK → Prop := fun xs H Q => ∃ (R : Rn) (B : Addr → Prop) (n c : Nat) (fs : List D) (v cv : V) (L : List Addr) (b : Bool), xs = [v, cv] ∧ Rep R H B n (.exn c fs) v L ∧ ExcC K (R.ca c) ∧ (∀ u, RelV cv u → PySem.W.kitOne K (.ref (R.ca c)) u = some b) ∧ Q (.bl b) H
theorem cr_isx : CallR X (.builtin "isinstance") (rIsx X.K) := by
  intro pins s σ H xs us Q I r h
  obtain ⟨R, B, n, c, fs, v, cv, L, b, rfl, hr, hC, hk, q⟩ := h
  obtain ⟨u1, u2, rfl, r1, r2⟩ := vals2 r
  simp only [Rep] at hr
  obtain ⟨rfl, a, dd, xs, rfl, e, nb, hx, hd⟩ := hr
  obtain ⟨ox, od, J, _⟩ := exn_at I e hd
  cases r1
  exact PySem.W.kia_one (PySem.W.g_kit hC) I.kIn ⟨ox, od, J⟩ (hk _ r2) (fun z => nomatch z) fun tk => ⟨.bl _, H, I.tok tk, rfl, q⟩
def rIsxQ (R : Rn) (sub : Nat → List Nat) (t : Ty) : V → Hp → VK → Prop := fun x H Q => ∃ (B : Addr → Prop) (n c : Nat) (fs : List D) (L : List Addr) (b : Bool), Rep R H B n (.exn c fs) x L ∧ isxD sub t (.exn c fs) = some (.bl b) ∧ Q (.bl b) H
theorem isxD_exn {t : Ty} {a d : D} (h : isxD sub t a = some d) : ∃ c fs, a = .exn c fs := by
  cases a with
  | exn c fs => exact ⟨c, fs, rfl⟩
  | _ => simp [isxD] at h
theorem attD_exn {tbl : List (Nat × Nat)} {a d : D} (h : attD tbl a = some d) : ∃ c fs, a = .exn c fs := by
  cases a with
  | exn c fs => exact ⟨c, fs, rfl⟩
  | _ => simp [attD] at h
theorem at_isx {t : Ty} {x : V} {Q : VK} (h : At R σ e H Ls F sub (.isx t) [x] Q) : rIsxQ R sub t x H Q := by
  obtain ⟨n, a, v, L, d, hv, r, hk, hf, k, g⟩ := at_1 (fun _ => rfl) h
  cases hv
  obtain ⟨c, fs, rfl⟩ := isxD_exn hf
  have key : ∃ b, d = .bl b := by
    unfold isxD at hf
    simp only at hf
    split at hf
    · split at hf
      · exact ⟨_, (Option.some.inj hf).symm⟩
      · cases hf
    · split at hf
      · exact ⟨_, (Option.some.inj hf).symm⟩
      · cases hf
    · cases hf
  obtain ⟨b, rfl⟩ := key
  exact ⟨_, n, c, fs, L, b, r, hf, k.bl g⟩
theorem isx_kit {K : PySem.W.Frag} {ca : Nat → Addr} {cf : Nat → List Str} {t : Ty} {c : Nat} {fs : List D} {b : Bool} (T : XT K ca cf sub) (h : isxD sub t (.exn c fs) = some (.bl b)) {g : Cg} (hg : g.R.ca = ca) : ExcC K (ca c) ∧ ∀ u, RelV (clsV g t) u → PySem.W.kitOne K (.ref (ca c)) u = some b := by
  unfold isxD at h
  simp only at h
  split at h
  · split at h
    · rename_i hz
      cases h
      refine ⟨T.ec c hz.1, fun u r => ?_⟩
      simp only [clsV, hg] at r
      cases r
      exact T.is c _ hz.1 hz.2
    · cases h
  · split at h
    · rename_i hz
      cases h
      refine ⟨T.ec c hz, fun u r => ?_⟩
      cases r
      exact T.ve c hz
    · cases h
  · cases h
section
variable {p pos p2 : Pos} {a b : Expr} {as : List Expr} {x : E} {t : Ty} {k : Nat} {f z : Str}
theorem jc_cls {C : Addr} (hR : g.R.ca k = C) (hm : X.mg z = some (.ref C)) (hg : Gl X z) (hd : (z == ("__debug__" : Str)) = false := by decide) : PE X (.Name z p) (tC (clsV g (.cls k))) := by
  subst hR
  exact pe_glob hg hm (v := .ref (g.R.ca k)) rfl hd
theorem jc_ve (hm : X.mg "ValueError" = none) (hg : Gl X "ValueError") : PE X (.Name "ValueError" p) (tC (clsV g .ve)) := pe_bltn hg hm (by rfl) (by rfl)
theorem je_isx (T : XT X.K g.R.ca g.R.cf g.sub) (hg : Gl X "isinstance") (hm : X.mg "isinstance" = none) (ha : JE g X a x) (ht : PE X b (tC (clsV g t))) (z : Pl1 X pos a [b] := by exact {}) (z2 : starEach [b] X.env = (false, eval b X.env) :: starEach [] X.env := by rfl) :
    JE g X (.Call (.Name "isinstance" p) [a, b] [] pos) (.b (.isx t) (.cons x .nil)) :=
  .of ((pe_callB cr_isx hg hm (by rfl) (pa_cons ha.plc (pa_cons ht pa_nil z2) z.he) (by decide) (by decide) z.he z.hpl).imp fun σ H Q h => by
    refine tP_mono (b1_run (r := rIsxQ g.R g.sub t) at_isx h) fun v H1 q => ?_
    obtain ⟨B, n, c, fs, L, b, r, h1, q⟩ := q
    obtain ⟨h2, h3⟩ := isx_kit T h1 (g := g) rfl
    exact ⟨g.R, B, n, c, fs, v, _, L, b, rfl, r, h2, h3, q⟩) (fun _ => rfl) rfl fun _ => rfl

/-! ### an attribute -/
def rAtt (K : PySem.W.Frag) (R : Rn) (f : Str) : V → Hp → VK → Prop := fun x H Q => ∃ (B : Addr → Prop) (c : Nat) (a d : Addr) (v : V), x = .ref a ∧ H a = some (ExG (R.ca c) a (some d)) ∧ R.cf c = [f] ∧ ¬ B d ∧ H d = some (.xd [(f, v)]) ∧ OexC K (R.ca c) ∧ ExcC K (R.ca c) ∧ PySem.W.findIn K (.ref (R.ca c)) f = some none ∧ Q v H
theorem pe_att {ta : TE} (ha : PE X a ta) (hb : attributeBase a f X.env (eval a X.env) = eval a X.env := by rfl) : PE X (.Attribute a f pos) (fun σ H Q => ta σ H fun x H1 => rAtt X.K R f x H1 Q) := by
  refine ⟨fun pins s σ H Q I h => attr_of hb (thn (ha.run pins s σ H _ I h) fun u s1 hh => ?_)⟩
  obtain ⟨x, H1, I1, rx, B, c, a, d, v, rfl, ha', hc, nb, hd, _, C, no, q⟩ := hh
  obtain rfl : u = Value.ref a := rx
  obtain ⟨ox, od, J, hk⟩ := exn_at (R := R) (B := B) (xs := [v]) (n := 1) I1 ha' ⟨by rw [hc]; rfl, .inr ⟨d, rfl, nb, by rw [hc]; exact hd⟩⟩
  obtain ⟨mA, o, rfl, hns, hr, hl⟩ := hk d rfl
  have hlk : ((R.cf c).zip [v]).lookup f = some v := by rw [hc]; simp [List.lookup]
  obtain ⟨u, hu, ru⟩ := RelO.some_of (v := v) (o := mA f) (by rw [← hlk]; exact hr f)
  exact PySem.HandSPX.exc_get I1.kIn J C.hg C.hk C.hs (PySem.W.findObj_own C.hd no rfl (by rw [hl, hu])) (handed_of ru) ⟨v, H1, I1.tok _, ru, q⟩
theorem at_att {tbl : List (Nat × Nat)} {K : PySem.W.Frag} {x : V} {Q : VK} (T : XT K R.ca R.cf sub) (ht : ∀ c i, tbl.lookup c = some i → (sub c).isEmpty = false ∧ R.cf c = [f] ∧ i = 0) (h : At R σ e H Ls F sub (.att tbl) [x] Q) : rAtt K R f x H Q := by
  obtain ⟨n, a, v, L, d, hv, r, hk, hf, k, g⟩ := at_1 (fun _ => rfl) h
  cases hv
  obtain ⟨c, fs, rfl⟩ := attD_exn hf
  unfold attD at hf
  simp only at hf
  split at hf
  · rename_i i hi
    obtain ⟨h1, h2, rfl⟩ := ht c i hi
    simp only [Rep] at r
    obtain ⟨rfl, a, dd, xs, rfl, e1, nb, hr, hd⟩ := r
    obtain ⟨hl, hd⟩ := hd
    rw [h2] at hl hd
    obtain ⟨d0, rfl⟩ : ∃ d0, fs = [d0] := by
      match fs, hl with
      | [d0], _ => exact ⟨d0, rfl⟩
    cases hf
    obtain ⟨v, vs, rfl, r1, r2⟩ := hr.uncons
    simp only [Reps] at r2
    obtain ⟨rfl, _⟩ := r2
    rcases hd with ⟨z, _⟩ | ⟨d', rfl, nd, hq⟩
    · cases z
    · exact ⟨_, c, a, d', v, rfl, e1, h2, nd, hq, T.ox c h1, T.ec c h1, T.no c f h1 (by rw [h2]; exact List.mem_singleton.mpr rfl), k.val g r1⟩
  · cases hf
theorem je_att {tbl : List (Nat × Nat)} (T : XT X.K g.R.ca g.R.cf g.sub) (ht : ∀ c i, tbl.lookup c = some i → (g.sub c).isEmpty = false ∧ g.R.cf c = [f] ∧ i = 0) (ha : JE g X a x) (hb : attributeBase a f X.env (eval a X.env) = eval a X.env := by rfl)
    (hp : PlainT X (.Attribute a f pos) := by exact fun _ => rfl) : JE g X (.Attribute a f pos) (.b (.att tbl) (.cons x .nil)) :=
  .of ((pe_att (R := g.R) ha.plc hb).imp fun σ H Q h => b1_run (r := rAtt X.K g.R f) (at_att T ht) h) (fun _ => rfl) rfl hp
end
end
end G

set_option maxHeartbeats 400000
/-! G.Exn2: errors made: C(e), C(f = e), as a value or to be raised. -/
namespace PySem.HandSPX
open Builtin Builtin.ObjectAttr
section
variable {M : Model} {kw : List (Str × Value)} {prog : Program} {w : World} {A : Around} {E : Value → Shared → Prop} {R : Result → Shared → Prop} {h : Heap} {g : Array GenState} {d : Drawn} {t : Nat} {os : OsState}
variable {nm q : Str} {C N : Addr} {bs bm bmB : List Value} {hdct : Bool} {sn : List Str} {sub : List Value} {ab : Bool} {col : Option Bool} {dd : Option Addr} {k0 k1 k2 k3 k5 : Option Value} {B newId initId : String}
theorem k_check (F : ExcBaseFacts B newId initId bmB) (hT : ∀ X : String, bm.contains (.type X) = bmB.contains (.type X)) {Q : Unit → Shared → Prop}
    (hC : h.get? C = some (excClassObj nm q C N bs bm hdct sn sub ab col dd k0 k1 k2 k3 k5 newId)) (hq : Q () ⟨h, g, d, t, os⟩) : wpAny M A (checkBuiltinCall newId ⟨[.ref C], kw⟩) Q E ⟨h, g, d, t, os⟩ := by
  have hcb : (Value.ref C :: bm).contains (.type B) = true := by rw [List.contains_cons, hT, F.hasB, Bool.or_true]
  have hst := F.noStar
  simp only [checkBuiltinCall, F.newKind, F.newSplit, F.newRow]
  repeat (first | refine wpAny_loadPart_at hC ?_ | (refine wpAny_isSubtype_exc hC ?_; rw [hcb]) | refine wpAny_staticBase_exc hC ?_ | refine wpAny_madeBy_exc hC ?_ | simp only [bne_self_eq_false, Bool.false_eq_true, if_false] | wp_step)
  exact hq
/-- the error that BaseException.__new__ lays: its empty args, itself -/
abbrev kH (h : Heap) (C : Addr) : Heap := (h.push (W.kdv_tup [])).push (excO C h.objs.size)
theorem k_new (F : ExcBaseFacts B newId initId bmB) (hT : ∀ X : String, bm.contains (.type X) = bmB.contains (.type X)) (hC : h.get? C = some (excClassObj nm q C N bs bm hdct sn sub ab col dd k0 k1 k2 k3 k5 newId))
    (hq : R (.ok (.ret (.ref (h.objs.size + 1)))) ⟨kH h C, g, d, t, os⟩) : codeAny (model prog w) A (.builtin newId ⟨[.ref C], kw⟩) R ⟨h, g, d, t, os⟩ := by
  have f0 := F.ends
  have m1 : (Value.ref C :: bm).contains (.type B) = true := by rw [List.contains_cons, hT, F.hasB, Bool.or_true]
  have m2 : (Value.ref C :: bm).contains (.type "AttributeError") = false := by rw [List.contains_cons, hT, F.noAttr]; rfl
  have m3 : (Value.ref C :: bm).contains (.type "NameError") = false := by rw [List.contains_cons, hT, F.noName]; rfl
  have hrest : ([] : List Value).length ≤ sizeLine := Nat.zero_le _
  refine codeAny_builtinAt F.entry ?_
  unfold Builtin.«BaseException.__new__»
  refine wpAt_bind ?_
  show wpAt _ _ _ (stack >>= _) _ _ _
  refine wpAt_bind (wpAt_stack fun p below => wpAt_of_wpAny ?_)
  wp_walk
  refine wpAt_of_wpAny ?_
  rw [F.owner]
  repeat (first | with_reducible refine wpAny_madeHere_exc F.canon hC ?_ | with_reducible refine wpAny_loadPart_at hC ?_ | (with_reducible refine wpAny_isSubtype_exc hC ?_; first | rw [m1] | rw [m2] | rw [m3]) | wp_step)
  show R _ _
  rw [Heap.size_push]
  exact hq
theorem k_tc (F : ExcBaseFacts B newId initId bmB) (hT : ∀ X : String, bm.contains (.type X) = bmB.contains (.type X)) {fI : Addr} {Q : Fin → Shared → Prop} (hC : h.get? C = some (excClassObj nm q C N bs bm hdct sn sub ab col dd k0 k1 k2 k3 k5 newId))
    (hi : W.Looks (model prog w) h (typeLookup (.ref C) "__init__") (some (.ref fI))) (hb : ∀ self, W.Looks (model prog w) h (bindSpecial (.ref fI) self) (.ref fI, [self]))
    (hq : codeAny (model prog w) A (.call (.ref fI) ⟨[.ref (h.objs.size + 1)], kw⟩) (fun r s' => match r with | .ok (.ret v) => v = .none ∧ Q (.done (.ret (.ref (h.objs.size + 1)))) s' | .ok _ => False | .error e => E e s') ⟨kH h C, g, d, t, os⟩) :
    wpAny (model prog w) A (Builtin.«type.__call__» ⟨[.ref C], kw⟩) Q E ⟨h, g, d, t, os⟩ := by
  repeat (first | with_reducible refine wpAny_loadPart_at hC ?_ | with_reducible refine wpAny_madeBy_exc hC ?_ | wp_step)
  refine codeAny_call_builtin_code (Code.quiet_builtin _ F.quiet) (k_check F hT hC (k_new F hT hC ?_))
  show wpAny _ _ _ _ _ _
  have kk : ∀ b o, h.get? b = some o → (kH h C).get? b = some o := fun b o e => Heap.get?_push_of_some _ (Heap.get?_push_of_some _ e)
  have hC' := kk _ _ hC
  have hx : (kH h C).get? (h.objs.size + 1) = some (excO C h.objs.size) := by heap_get
  have hcc : (Value.ref C :: bm).contains (.ref C) = true := by simp
  have j1 := hi.keeps kk
  have j2 := (hb (.ref (h.objs.size + 1))).keeps kk
  unfold isInstance
  repeat (first | with_reducible refine wpAny_loadPart_at hx ?_ | (with_reducible refine wpAny_isSubtype_exc hC' ?_; rw [hcc]) | wp_step)
  show wpAny _ _ (typeLookup (.ref C) _) _ _ _
  refine j1.at (wpAny_holding (wpAny_bind (j2.at (wpAny_bind (wpAny_call (codeAny_mono hq fun r s' z => ?_))))))
  rcases r with e | (v | _ | _ | _) <;> first | exact z | exact z.elim | skip
  obtain ⟨rfl, z⟩ := z
  first
    | exact wpAny_pure (wpAny_pure z)
    | (wp_walk; exact z)
theorem k_tcc {Q : Unit → Shared → Prop} (hC : h.get? C = some (excClassObj nm q C N bs bm hdct sn sub ab col dd k0 k1 k2 k3 k5 newId)) (hq : Q () ⟨h, g, d, t, os⟩) : wpAny M A (checkBuiltinCall "type.__call__" ⟨[.ref C], kw⟩) Q E ⟨h, g, d, t, os⟩ := by
  have f3 := tc_sub
  have hTy : (⟨h, g, d, t, os⟩ : Shared).TypeIs (.ref C) "type" := ⟨_, hC, rfl⟩
  simp only [checkBuiltinCall, tc_kind, tc_split]
  repeat (any_goals (first | assumption | with_reducible refine wpAny_loadPart_at hC ?_ | with_reducible refine wpAny_onRaise ?_ | with_reducible refine wpAny_map ?_ | wp_step))
theorem k_call (F : ExcBaseFacts B newId initId bmB) (hT : ∀ X : String, bm.contains (.type X) = bmB.contains (.type X)) {fI : Addr} (hC : h.get? C = some (excClassObj nm q C N bs bm hdct sn sub ab col dd k0 k1 k2 k3 k5 newId))
    (hi : W.Looks (model prog w) h (typeLookup (.ref C) "__init__") (some (.ref fI))) (hb : ∀ self, W.Looks (model prog w) h (bindSpecial (.ref fI) self) (.ref fI, [self]))
    (hq : codeAny (model prog w) (A.under (.builtin "type.__call__" ⟨[.ref C], kw⟩)) (.call (.ref fI) ⟨[.ref (h.objs.size + 1)], kw⟩) (W.InitBack (h.objs.size + 1) R) ⟨kH h C, g, d, t, os⟩) :
    codeAny (model prog w) A (.call (.ref C) ⟨[], kw⟩) R ⟨h, g, d, t, os⟩ := by
  have f1 := tc_lookup
  have f2 := tc_bind (.ref C)
  have hTy : (⟨h, g, d, t, os⟩ : Shared).TypeIs (.ref C) "type" := ⟨_, hC, rfl⟩
  refine codeAny_of_tree ?_
  show wpAny _ _ (callAny (.ref C) _) _ _ _
  repeat (any_goals (first | assumption | with_reducible refine wpAny_loadPart_at hC ?_ | wp_step))
  refine ⟨rfl, codeAny_call_builtin_at (Code.quiet_builtin _ (by decide +kernel)) entry_typeCall (k_tcc hC (k_tc F hT hC hi hb (codeAny_mono hq fun r s' z => ?_)))⟩
  rcases r with e | (v | _ | _ | _) <;> exact z
end
end PySem.HandSPX

set_option maxHeartbeats 400000
/-! G.Exn3: an error's __init__; errors made. -/
namespace L2
open PySem PySem.Spec PyProof.Rows
section
variable {X : Cx} {pins : List (Addr × Obj)} {σ : St} {H : Hp} {s : Shared} {a C dx : Addr} {f : Str} {y : V} {u : Value} {fs : List (Str × V)} {E : Value → Shared → Prop} {A : Around}
/-- what is tracked is told otherwise: the object stays -/
theorem Inv.retell {o o' : HO} {b : Addr} (I : Inv X pins σ H s) (ho : H b = some o) (mu : Mut (some o)) (hx : ∃ w, s.heap.get? b = some w) (new : ObjOk X.prog X.w (upd H b o') s.heap b o') : Inv X pins σ (upd H b o') s := by
  have J := I.write (x := b) (e := b) (o := o') (h' := s.heap) (t' := s.toks) (by rw [ho]; exact mu) (.inl rfl) (fun _ _ _ q => q) hx new
  exact J
theorem ost_x (T : OexC X.K C) (I : Inv X pins σ H s) (e : H a = some (exo a C none)) (hno : PySem.W.findIn X.K (.ref C) f = some none) (ry : RelV y u) {Q : Unit → Shared → Prop}
    (h : ∀ dx s', H dx = none → dx ≠ a → Inv X pins σ (upd (upd H dx (.xd [(f, y)])) a (exo a C (some dx))) s' → Q () s') : wpAny (model X.prog X.w) A (setAttr (.ref a) f u) Q E s := by
  refine ost_new T I e hno ry fun dx s' hn ne J => h dx s' hn ne ?_
  have e1 : upd (upd H dx (exd dx [(f, y)])) a (exo a C (some dx)) dx = some (exd dx [(f, y)]) := by rw [upd_ne ne, upd_same]
  obtain ⟨mA, hns, rel⟩ := exd_at J.hok e1
  have K := J.retell (o' := .xd [(f, y)]) e1 True.intro (by obtain ⟨o, _, _, q, _⟩ := hns; exact ⟨o, q⟩) ⟨mA, hns, rel⟩
  have eq : upd (upd (upd H dx (exd dx [(f, y)])) a (exo a C (some dx))) dx (.xd [(f, y)]) = upd (upd H dx (.xd [(f, y)])) a (exo a C (some dx)) := by
    funext b
    by_cases h1 : b = dx
    · rw [h1, upd_same, upd_ne ne, upd_same]
    · rw [upd_ne h1]
      by_cases h2 : b = a
      · rw [h2, upd_same, upd_same]
      · rw [upd_ne h2, upd_ne h1, upd_ne h2, upd_ne h1]
  rw [eq] at K
  exact K
/-- self.f = e -/
def tOstX (K : PySem.W.Frag) (f : Str) (to te : TE) : TS := fun D σ H => te σ H fun y H1 => to σ H1 fun x H2 => ∃ a C : Addr, x = .ref a ∧ OexC K C ∧ PySem.W.findIn K (.ref C) f = some none ∧ H2 a = some (exo a C none) ∧ ∀ dx, H2 dx = none → dx ≠ a → D.nx σ (upd (upd H2 dx (.xd [(f, y)])) a (exo a C (some dx)))
theorem ps_ostX {o e : Expr} {to te : TE} {p' pos : Pos} (ho : PE X o to) (he : PE X e te) (hs : swapsWith e (some (.Attribute o f p')) pos.line X.env = pure false := by rfl) : PS X (.Assign [.Attribute o f p'] e pos) (tOstX X.K f to te) := by
  refine ⟨fun pins s σ H D I h => ?_⟩
  refine plainObj_wpAny_Assign_Attribute (thn (he.run pins s σ H _ I h) fun v s1 ⟨y, H1, I1, r1, q1⟩ => thn (ho.run pins s1 σ H1 _ I1 q1) fun u s2 ⟨x, H2, I2, r2, a, C, ex, T, hno, ea, q⟩ => ?_) hs
  subst ex
  obtain rfl : u = Value.ref a := r2
  exact ost_x T I2 ea hno r1 fun dx s' n ne J => ⟨σ, _, J, q dx n ne⟩
/-- what the text says of the base class: its __init__ is ValueError's -/
structure BaseI (K : PySem.W.Frag) (C : Addr) : Prop where
  ga : PySem.W.specialIn K (.ref C) "__getattribute__" = some (some (.builtin "type.__getattribute__"))
  rd : PySem.W.readsIn K C (.type "type") = true
  at_ : PySem.W.findCls K (.ref C) (.type "type") "__init__" = some (.val (.builtin "ValueError.__init__"))
/-- Base.__init__(self, ..) -/
theorem pe_oinit {x : Str} {pl : Sem Bool} {e : Expr} {es : List Expr} {ta : TA} {p1 p2 pos : Pos} (hg : Gl X x) (hm : X.mg x = some (.ref C)) (B : BaseI X.K C) (ha : PA X (e :: es) ta) (hdb : (x == ("__debug__" : Str)) = false := by decide)
    (hc : eval (.Call (.Attribute (.Name x p1) "__init__" p2) (e :: es) [] pos) X.env = (do
      let ov ← eval (.Name x p1) X.env
      standAt p2.atName
      let (f, first) ← holding [ov] (getMethod ov "__init__" pl)
      callWith pos f first (backTo pos (starEach (e :: es) X.env)) (backToKw pos (keywordEach [] X.env))) := by rfl)
    (he : starEach (e :: es) X.env = (false, eval e X.env) :: starEach es X.env := by rfl) (hpl : (backTo pos (starEach es X.env)).any (·.1) = false := by rfl) :
    PE X (.Call (.Attribute (.Name x p1) "__init__" p2) (e :: es) [] pos) (tVeI X.K ta) := by
  refine ⟨fun pins s σ H Q I h => PySem.W.methodCall_KW (ld_glob I hg hm ?_ hdb) hc⟩
  refine PySem.W.method_cls I.kIn B.ga (PySem.W.cls_value I.kIn B.rd B.at_ (by decide) ?_)
  show wpAny _ _ (callWith pos (Value.builtin "ValueError.__init__") [] (backTo pos (starEach (e :: es) X.env)) []) _ _ _
  refine PyProof.Rows.callWith_method1 (thn (ha.run pos pins _ σ H _ (I.tok _) h) fun us s1 ⟨vs, H1, I1, r1, a, C', ws, ev, hl, T, ea, q⟩ => ?_) he hpl
  subst ev
  cases r1 with
  | @cons _ u0 _ ur ra rr =>
    obtain rfl : u0 = Value.ref a := ra
    exact oinit_ok T I1 ea (by rw [← Paired.length rr, sizeLine_eq]; omega) fun s' J => ⟨.non, H1, J, rfl, q⟩
end
/-- __init__(self, f): Base.__init__(self, ..); self.f = f -/
def spX (C : Addr) (f : Str) : Sp := fun vs H Q _ => ∃ a y, vs = [.ref a, y] ∧ H a = some (exo a C none) ∧ ∀ d, H d = none → d ≠ a → Q .non (upd (upd H d (.xd [(f, y)])) a (exo a C (some d)))
/-- __init__(self): Base.__init__(self, ..) -/
def spX0 (C : Addr) : Sp := fun vs H Q _ => ∃ a, vs = [.ref a] ∧ H a = some (exo a C none) ∧ Q .non H

/-! ### made -/
/-- behind C(..): the error stands at a, all else as it was -/
structure MadeX (X : Cx) (pins : List (Addr × Obj)) (σ : St) (C : Addr) (H1 : Hp) (s : Shared) (P : Addr → Hp → Prop) (u : Value) (s' : Shared) : Prop where
  ex : ∃ (a : Addr) (H2 : Hp) (hp2 : Heap), u = .ref a ∧ H1 a = none ∧ Inv X pins σ H1 s ∧ s.heap.objs.size ≤ a ∧ (∀ b o, s.heap.get? b = some o → hp2.get? b = some o) ∧ Inv X pins σ (upd H1 a (exo a C none)) { s with heap := hp2 } ∧
    Un (frs X.stack) [] (upd H1 a (exo a C none)) H2 hp2 s'.heap ∧ HOk X.prog X.w H2 s'.heap ∧ s'.os = s.os ∧ AllBare s'.gens ∧ P a H2
section
variable {X : Cx} {pins : List (Addr × Obj)} {σ : St} {H1 : Hp} {s : Shared} {C fI : Addr} {k : Nat} {fd : FuncData} {ps : List Str} {sp : Sp} {P : Addr → Hp → Prop} {us : List Value} {vs : List V} {kw : List (Str × Value)}
theorem made_tail {hp : Heap} {g : Array GenState} {dr : Drawn} {tk : Nat} {os : OsState} {A : Around} (F1 : FnOk X.prog X.w X.K X.mg X.base CX0 k fI fd ps sp) (hr : Room k A) (I1 : Inv X pins σ H1 ⟨hp, g, dr, tk, os⟩) {hp2 : Heap} (k2 : ∀ b o, hp.get? b = some o → hp2.get? b = some o)
    (hx : ∃ t1 : Addr, hp2.get? (hp.objs.size + 1) = some ({ cls := .ref C, dict := none, data := .fields #[.ref t1, .none, .none, .none, .bool false, .none] } : Obj)) (e0 : ∀ I2 : Inv X pins σ (upd H1 (hp.objs.size + 1) (exo (hp.objs.size + 1) C none)) ⟨hp2, g, dr, tk, os⟩, Env0 X.prog X.w X.K X.mg X.base A X.stack ⟨hp2, g, dr, tk, os⟩ (upd H1 (hp.objs.size + 1) (exo (hp.objs.size + 1) C none)))
    {args : Args} (hb : X.K.In hp2 → BindsTo ⟨hp2, g, dr, tk, os⟩ fd args (ps.zip (.ref (hp.objs.size + 1) :: us))) (r1 : Vals vs us)
    (q : ∀ a, H1 a = none → sp (.ref a :: vs) (upd H1 a (exo a C none)) (fun v H2 => v = .non ∧ P a H2) fun _ _ _ => False) {Q : Value → Shared → Prop}
    (h : ∀ u s', MadeX X pins σ C H1 ⟨hp, g, dr, tk, os⟩ P u s' → Q u s') :
    codeAny (model X.prog X.w) A (.call (.ref fI) args) (PySem.W.InitBack (hp.objs.size + 1) fun r s' => match r with | .ok (.ret v) => Q v s' | .ok _ => False | .error e => X.xe e s') ⟨hp2, g, dr, tk, os⟩ := by
  obtain ⟨t1, hx⟩ := hx
  have hsz : hp.objs.size ≤ hp.objs.size + 1 := Nat.le_succ _
  have hn : H1 (hp.objs.size + 1) = none := I1.hok.fresh hsz
  have I2 : Inv X pins σ (upd H1 (hp.objs.size + 1) (exo (hp.objs.size + 1) C none)) ⟨hp2, g, dr, tk, os⟩ := I1.laid (t' := tk) (a := hp.objs.size + 1) (o := exo (hp.objs.size + 1) C none) (h' := hp2) k2 hsz (exo_ok hx)
  refine codeAny_mono (F1.run A X.stack ⟨hp2, g, dr, tk, os⟩ _ args (.ref (hp.objs.size + 1) :: us) (.ref (hp.objs.size + 1) :: vs) _ (fun _ _ _ => False) hr (e0 I2) (hb I2.kIn) (.cons rfl r1) (q _ hn)) fun r s' hq => ?_
  cases r with
  | error e => exact False.elim hq
  | ok fl =>
    cases fl with
    | ret u =>
      obtain ⟨v, H2, os2, bare2, un2, hok2, rv, ev, p⟩ := hq
      subst ev
      exact ⟨rv, h _ _ ⟨_, H2, hp2, rfl, hn, I1, hsz, k2, I2, un2, hok2, os2, bare2, p⟩⟩
    | next => exact False.elim hq
    | brk => exact False.elim hq
    | cont => exact False.elim hq
/-- C(e, ..) -/
theorem made_pos (T : OexC X.K C) (iC : PySem.W.findIn X.K (.ref C) "__init__" = some (some (.ref fI))) (tI : PySem.W.typeIn X.K (.ref fI) = some (.type "function")) (F1 : FnOk X.prog X.w X.K X.mg X.base CX0 k fI fd ps sp) (hr : Room (k + 1) X.A) (hb : Binds X.K fd ps [])
    (I1 : Inv X pins σ H1 s) (r1 : Vals vs us) (hl : vs.length ≤ 1000) (q : ∀ a, H1 a = none → sp (.ref a :: vs) (upd H1 a (exo a C none)) (fun v H2 => v = .non ∧ P a H2) fun _ _ _ => False) {Q : Value → Shared → Prop}
    (h : ∀ u s', MadeX X pins σ C H1 s P u s' → Q u s') : wpAny (model X.prog X.w) X.A (call (.ref C) us) Q X.xe s := by
  obtain ⟨nm, qn, N, bs, bm, sn, sub, ab, col, dd, k0, k1, k2, k3, k5, hC, hbm⟩ := T.cls
  obtain ⟨hp, g, dr, tk, os⟩ := s
  have hus : us.length ≤ sizeLine := by
    rw [← Paired.length r1, sizeLine_eq]
    omega
  have hl2 : (Value.ref (hp.objs.size + 1) :: us ++ []).length = ps.length := by
    have hn : H1 (hp.objs.size + 1) = none := I1.hok.fresh (Nat.le_succ _)
    have := F1.len _ _ _ _ (q _ hn)
    rw [List.append_nil, List.length_cons, ← r1.length]
    exact this
  refine wpAny_call (PySem.HandSPX.call_own F.excBase_ValueError (fun Y => PySem.HandSPX.refsVE_contains Y bm hbm) (I1.kIn _ _ hC) (PySem.W.looks_findIn I1.kIn iC) (fun self => PySem.W.bind_fn I1.kIn self tI) hus
    (made_tail F1 (hr.make C us []) I1 (fun b o e => Heap.get?_push_of_some _ (Heap.get?_push_of_some _ e)) ⟨hp.objs.size, by heap_get⟩ (fun I2 => I2.env0.make C us []) (fun hk => ?_) r1 q h))
  have := hb ⟨_, g, dr, tk, os⟩ (Value.ref (hp.objs.size + 1) :: us) hk hl2
  rw [List.append_nil] at this
  exact this
/-- C(f = e, ..) -/
theorem made_kw (T : OexC X.K C) (iC : PySem.W.findIn X.K (.ref C) "__init__" = some (some (.ref fI))) (tI : PySem.W.typeIn X.K (.ref fI) = some (.type "function")) (F1 : FnOk X.prog X.w X.K X.mg X.base CX0 k fI fd ps sp) (hr : Room (k + 1) X.A)
    {p : Str} (hps : ps = [("self" : Str), p]) (hb : ∀ (s : Shared) (u w : Value), BindsTo s fd ⟨[u], [(p, w)]⟩ [("self", u), (p, w)]) {y : V} {w : Value}
    (I1 : Inv X pins σ H1 s) (r1 : RelV y w) (q : ∀ a, H1 a = none → sp [.ref a, y] (upd H1 a (exo a C none)) (fun v H2 => v = .non ∧ P a H2) fun _ _ _ => False) {Q : Value → Shared → Prop}
    (h : ∀ u s', MadeX X pins σ C H1 s P u s' → Q u s') : wpAny (model X.prog X.w) X.A (call (.ref C) [] [(p, w)]) Q X.xe s := by
  obtain ⟨nm, qn, N, bs, bm, sn, sub, ab, col, dd, k0, k1, k2, k3, k5, hC, hbm⟩ := T.cls
  obtain ⟨hp, g, dr, tk, os⟩ := s
  subst hps
  refine wpAny_call (PySem.HandSPX.k_call F.excBase_ValueError (fun Y => PySem.HandSPX.refsVE_contains Y bm hbm) (I1.kIn _ _ hC) (PySem.W.looks_findIn I1.kIn iC) (fun self => PySem.W.bind_fn I1.kIn self tI)
    (made_tail (us := [w]) F1 (hr.make C [] [(p, w)]) I1 (fun b o e => Heap.get?_push_of_some _ (Heap.get?_push_of_some _ e)) ⟨hp.objs.size, by heap_get⟩ (fun I2 => I2.env0.make C [] [(p, w)]) (fun hk => hb _ _ _) (.cons r1 .nil) q h))
end
end L2

set_option maxHeartbeats 400000
/-! G.Exn4: errors made, as values, to be raised. -/
namespace L2
open PySem PySem.Spec PyProof.Rows
section
variable {X : Cx} {pins : List (Addr × Obj)} {σ : St} {H1 : Hp} {s : Shared} {C fI : Addr} {k : Nat} {fd : FuncData} {ps : List Str} {sp : Sp} {P : Addr → Hp → Prop}
/-- an error made is a value -/
theorem MadeX.val {u : Value} {s' : Shared} {Q : VK} (m : MadeX X pins σ C H1 s P u s') (h : ∀ a H2, H1 a = none → P a H2 → ∃ d, H2 a = some (exo a C d) ∧ Q (.ref a) (upd H2 a (G.ExG C a d))) : EP X pins σ Q u s' := by
  obtain ⟨a, H2, hp2, rfl, hn, I1, ha, k, I2, un, hok, os, bare, p⟩ := m
  obtain ⟨d, e, q⟩ := h a H2 hn p
  have J : Inv X pins σ H2 s' := I2.call' (s' := s') (ch := []) os un hok bare fun b z => absurd z (by simp)
  obtain ⟨t1, ho⟩ := exo_at J.hok e
  have J2 := J.retell (o' := G.ExG C a d) e True.intro ⟨_, ho⟩ ⟨⟨_, _, ho, rfl, rfl, rfl⟩, ⟨_, ho⟩, fun _ _ ⟨o, v, q, r⟩ k => ⟨o, v, k o q, r⟩⟩
  exact ⟨.ref a, _, J2, rfl, q⟩
/-- .. or to be raised -/
theorem MadeX.rse {u : Value} {s' : Shared} {Q : XK} (T : OexC X.K C) (m : MadeX X pins σ C H1 s P u s') (h : ∀ a H2, H1 a = none → P a H2 → ∃ d, H2 a = some (exo a C d) ∧ Q (.ref C) d (del H2 a)) : MkP X pins σ Q u s' := by
  obtain ⟨a, H2, hp2, rfl, hn, I1, ha, k, I2, un, hok, os, bare, p⟩ := m
  obtain ⟨d, ea, q⟩ := h a H2 hn p
  obtain ⟨t0, hoe⟩ := exo_at hok ea
  obtain ⟨G, g1, g2⟩ := restrict s'.heap fun b => decide (b ≠ a)
  have gk : ∀ b, b ≠ a → G.get? b = s'.heap.get? b := fun b hb => g1 b (decide_eq_true hb)
  have ge : G.get? a = none := g2 a (by simp)
  have na : ∀ {b : Addr} {o : Obj}, s.heap.get? b = some o → b ≠ a := fun {b o} z => Nat.ne_of_lt (Nat.lt_of_lt_of_le (Heap.lt_size z) ha)
  have up : ∀ {b : Addr}, b ≠ a → H1 b = none → upd H1 a (exo a C none) b = none := fun {b} hb n => by rw [upd_ne hb]; exact n
  have uq : ∀ {b : Addr} {o : HO}, H1 b = some o → upd H1 a (exo a C none) b = some o := fun {b o} z => by rw [upd_ne (ne_of_none z hn)]; exact z
  have U : Un (frs X.stack) [] H1 (del H2 a) s.heap G := {
    keep := fun b o z n hf hx => (gk b (na z)).trans (un.keep b o (k b o z) (up (na z) n) hf hx)
    slot := fun b o z n hf hx => by
      obtain ⟨sl, e⟩ := un.slot b o (k b o z) (up (na z) n) hf hx
      exact ⟨sl, (gk b (na z)).trans e⟩
    free := fun b o z n hx => (del_ne (na z)).trans (un.free b o (k b o z) (up (na z) n) hx)
    there := fun b o z hx => by
      obtain ⟨o', e⟩ := un.there b o (k b o z) hx
      exact ⟨o', (gk b (na z)).trans e⟩
    tups := fun b xs z => (del_ne (ne_of_none z hn)).trans (un.tups b xs (uq z))
    frzs := fun b o v z => (del_ne (ne_of_none z hn)).trans (un.frzs b o v (uq z))
    tbls := fun b ps z => by
      obtain ⟨m, e⟩ := un.tbls b ps (uq z)
      exact ⟨m, (del_ne (ne_of_none z hn)).trans e⟩ }
  have hok3 : HOk X.prog X.w (del H2 a) G := fun b o z => by
    have hba : b ≠ a := fun e => by rw [e, del_same] at z; cases z
    rw [del_ne hba] at z
    have noa : ∀ {c : Addr}, H2 c = some (.own b) → c ≠ a := fun {c} hc => at_ne ea hc exo_own
    exact (hok b o z).stay (fun c v hc y => (gk c (by
        rcases hc with hc | hc
        · rw [hc]; exact hba
        · exact noa hc)).trans y) (fun c hc => (del_ne (noa hc)).trans hc) fun c xs hc => (del_ne (at_ne ea hc exo_tup)).trans hc
  have J : Inv X pins σ (del H2 a) { s' with heap := G } := I1.call' (s' := { s' with heap := G }) (ch := []) os U hok3 bare fun b z => absurd z (by simp)
  refine ⟨a, _, _, { s' with heap := G }, del H2 a, .ref C, d, rfl, J, fun b o z => ?_, ge, hoe, ⟨rfl, rfl⟩, rfl, rfl, del_same, rfl, bare, raises_own T.exC T.tyC, q⟩
  by_cases hba : b = a
  · have z' : G.get? b = some o := z
    rw [hba, ge] at z'
    cases z'
  · exact (gk b hba).symm.trans z
/-- what the text says of a class of errors and its __init__ -/
structure MkC (P : Program) (w : World) (K : PySem.W.Frag) (mg : Str → Option Value) (base : Heap) (C fI : Addr) (k : Nat) (fd : FuncData) (ps : List Str) (sp : Sp) : Prop where
  T : OexC K C
  iC : PySem.W.findIn K (.ref C) "__init__" = some (some (.ref fI))
  tI : PySem.W.typeIn K (.ref fI) = some (.type "function")
  F1 : FnOk P w K mg base CX0 k fI fd ps sp
  hb : Binds K fd ps []
abbrev MkX (X : Cx) := MkC X.prog X.w X.K X.mg X.base
/-- C(e), as a value -/
def tXv (C : Addr) (f : Str) (ta : TA) : TE := fun σ H Q => ta σ H fun vs H1 => ∃ y, vs = [y] ∧ ∀ a d, H1 a = none → H1 d = none → d ≠ a → Q (.ref a) (upd (upd H1 d (.xd [(f, y)])) a (G.ExG C a (some d)))
def tXm (C : Addr) (f : Str) (ta : TA) : St → Hp → XK → Prop := fun σ H Q => ta σ H fun vs H1 => ∃ y, vs = [y] ∧ ∀ d, H1 d = none → Q (.ref C) (some d) (upd H1 d (.xd [(f, y)]))
variable {x f : Str} {e : Expr} {es : List Expr} {ta : TA} {te : TE} {p pos kp : Pos}
theorem upd_twc {H : Hp} {a : Addr} {o o' : HO} : upd (upd H a o) a o' = upd H a o' := by
  funext b
  by_cases h : b = a
  · rw [h, upd_same, upd_same]
  · rw [upd_ne h, upd_ne h, upd_ne h]
theorem upd_swap {H : Hp} {a b : Addr} {o o' : HO} (h : a ≠ b) : upd (upd H a o) b o' = upd (upd H b o') a o := by
  funext c
  by_cases h1 : c = b
  · rw [h1, upd_same, upd_ne (Ne.symm h), upd_same]
  · rw [upd_ne h1]
    by_cases h2 : c = a
    · rw [h2, upd_same, upd_same]
    · rw [upd_ne h2, upd_ne h2, upd_ne h1]
theorem del_upd {H : Hp} {a : Addr} {o : HO} (h : H a = none) : del (upd H a o) a = H := by
  funext b
  by_cases e : b = a
  · rw [e, del_same, h]
  · rw [del_ne e, upd_ne e]
/-- what spX leaves -/
def PX (C : Addr) (f : Str) (y : V) (H1 : Hp) (a : Addr) (H2 : Hp) : Prop := ∃ d, H1 d = none ∧ d ≠ a ∧ H2 = upd (upd (upd H1 a (exo a C none)) d (.xd [(f, y)])) a (exo a C (some d))
theorem spX_of {y : V} {a : Addr} : spX C f [.ref a, y] (upd H1 a (exo a C none)) (fun v H2 => v = .non ∧ PX C f y H1 a H2) fun _ _ _ => False :=
  ⟨a, y, rfl, upd_same, fun d hd ne => ⟨rfl, d, by rw [upd_ne ne] at hd; exact hd, ne, rfl⟩⟩
theorem PX.val {y : V} {a : Addr} {H2 : Hp} {Q : VK} (hn : H1 a = none) (p : PX C f y H1 a H2) (h : ∀ a d, H1 a = none → H1 d = none → d ≠ a → Q (.ref a) (upd (upd H1 d (.xd [(f, y)])) a (G.ExG C a (some d)))) : ∃ d, H2 a = some (exo a C d) ∧ Q (.ref a) (upd H2 a (G.ExG C a d)) := by
  obtain ⟨d, hd, ne, rfl⟩ := p
  refine ⟨some d, upd_same, ?_⟩
  rw [upd_twc, upd_swap (Ne.symm ne), upd_twc]
  exact h a d hn hd ne
theorem PX.rse {y : V} {a : Addr} {H2 : Hp} {Q : XK} (hn : H1 a = none) (p : PX C f y H1 a H2) (h : ∀ d, H1 d = none → Q (.ref C) (some d) (upd H1 d (.xd [(f, y)]))) : ∃ d, H2 a = some (exo a C d) ∧ Q (.ref C) d (del H2 a) := by
  obtain ⟨d, hd, ne, rfl⟩ := p
  refine ⟨some d, upd_same, ?_⟩
  rw [upd_swap (Ne.symm ne), upd_twc, del_upd (by rw [upd_ne (Ne.symm ne)]; exact hn)]
  exact h d hd
theorem pe_xv {p₀ : Str} (M : MkX X C fI k fd [("self" : Str), p₀] (spX C f)) (hr : Room (k + 1) X.A) (hg : Gl X x) (hm : X.mg x = some (.ref C)) (ha : PA X (e :: es) ta) (hdb : (x == ("__debug__" : Str)) = false := by decide)
    (he : starEach (e :: es) X.env = (false, eval e X.env) :: starEach es X.env := by rfl) (hpl : (backTo pos (starEach es X.env)).any (·.1) = false := by rfl) : PE X (.Call (.Name x p) (e :: es) [] pos) (tXv C f ta) := by
  refine ⟨fun pins s σ H Q I h => wpAny_Call_Name_kw (ld_glob I hg hm ?_ hdb)⟩
  refine PySem.W.callWith_K (h₀ := X.base) I.ok.mod.kin M.T.kC (thn (ha.run pos pins s σ H _ I h) fun us s1 ⟨vs, H1, I1, r1, y, ev, q⟩ => ⟨I1.kIn, ?_⟩) he hpl
  subst ev
  exact made_pos (P := PX C f y H1) M.T M.iC M.tI M.F1 hr M.hb I1 r1 (by simp) (fun a _ => spX_of) fun u s' m => m.val fun a H2 hn p => p.val hn q
theorem pe_xk {f₀ : Str} (M : MkX X C fI k fd [("self" : Str), f₀] (spX C f)) (hk : ∀ (s : Shared) (u w : Value), BindsTo s fd ⟨[u], [(f₀, w)]⟩ [("self", u), (f₀, w)]) (hr : Room (k + 1) X.A) (hg : Gl X x) (hm : X.mg x = some (.ref C)) (ha : PE X e te) (hdb : (x == ("__debug__" : Str)) = false := by decide)
    (hall : (backToKw pos (keywordEach [⟨some f₀, e, kp⟩] X.env)).all (·.1.isSome) = true := by rfl) (hks : (backToKw pos (keywordEach [⟨some f₀, e, kp⟩] X.env)).filterMap (·.1) = [f₀] := by rfl)
    (hpl : ((backTo pos (starEach [] X.env)).any (·.1) || (backToKw pos (keywordEach [⟨some f₀, e, kp⟩] X.env)).any (·.1.isNone)) = false := by rfl) : PE X (.Call (.Name x p) [] [⟨some f₀, e, kp⟩] pos) (tXv C f (tCons te tNil)) := by
  refine ⟨fun pins s σ H Q I h => wpAny_Call_Name_kw (ld_glob I hg hm ?_ hdb)⟩
  refine PySem.W.callWith_KW0 (h₀ := X.base) I.ok.mod.kin M.T.kC hall ?_ hpl
  refine thn ((pk_cons (nm := some f₀) (kpos := kp) ha pk_nil).run pos pins s σ H _ I h) fun ws s2 ⟨zs, H2, I2, rz, y, ev, q2⟩ => ⟨I2.kIn, ?_⟩
  rw [hks]
  subst ev
  obtain ⟨w, rfl, rw'⟩ := vals1 rz
  exact made_kw (P := PX C f y H2) M.T M.iC M.tI M.F1 hr rfl hk I2 rw' (fun a _ => spX_of) fun u s' m => m.val fun a H2 hn p => p.val hn q2
theorem pmk_x {p₀ : Str} (M : MkX X C fI k fd [("self" : Str), p₀] (spX C f)) (hr : Room (k + 1) X.A) (hg : Gl X x) (hm : X.mg x = some (.ref C)) (ha : PA X (e :: es) ta) (hdb : (x == ("__debug__" : Str)) = false := by decide)
    (he : starEach (e :: es) X.env = (false, eval e X.env) :: starEach es X.env := by rfl) (hpl : (backTo pos (starEach es X.env)).any (·.1) = false := by rfl) : PMk X (.Call (.Name x p) (e :: es) [] pos) (tXm C f ta) := by
  intro pins s σ H Q I h
  refine wpAny_Call_Name_kw (ld_glob I hg hm ?_ hdb)
  refine PySem.W.callWith_K (h₀ := X.base) I.ok.mod.kin M.T.kC (thn (ha.run pos pins s σ H _ I h) fun us s1 ⟨vs, H1, I1, r1, y, ev, q⟩ => ⟨I1.kIn, ?_⟩) he hpl
  subst ev
  exact made_pos (P := PX C f y H1) M.T M.iC M.tI M.F1 hr M.hb I1 r1 (by simp) (fun a _ => spX_of) fun u s' m => m.rse M.T fun a H2 hn p => p.rse hn q
/-- C() -/
def PX0 (C : Addr) (H1 : Hp) (a : Addr) (H2 : Hp) : Prop := H2 = upd H1 a (exo a C none)
theorem pe_xv0 (M : MkX X C fI k fd ["self"] (spX0 C)) (hr : Room (k + 1) X.A) (hg : Gl X x) (hm : X.mg x = some (.ref C)) (hdb : (x == ("__debug__" : Str)) = false := by decide) :
    PE X (.Call (.Name x p) [] [] pos) (fun σ H Q => ∀ a, H a = none → Q (.ref a) (upd H a (G.ExG C a none))) := by
  refine ⟨fun pins s σ H Q I h => wpAny_Call_Name_kw (ld_glob I hg hm (PySem.W.callWith_K0 I.kIn M.T.kC ?_) hdb)⟩
  refine made_pos (us := []) (vs := []) (P := PX0 C H) M.T M.iC M.tI M.F1 hr M.hb I .nil (by simp) (fun a _ => ⟨a, rfl, upd_same, rfl, rfl⟩) fun u s' m => m.val fun a H2 hn p => ?_
  unfold PX0 at p
  subst p
  exact ⟨none, upd_same, by rw [upd_twc]; exact h a hn⟩
theorem pmk_x0 (M : MkX X C fI k fd ["self"] (spX0 C)) (hr : Room (k + 1) X.A) (hg : Gl X x) (hm : X.mg x = some (.ref C)) (hdb : (x == ("__debug__" : Str)) = false := by decide) : PMk X (.Call (.Name x p) [] [] pos) (fun σ H Q => Q (.ref C) none H) := by
  intro pins s σ H Q I h
  refine wpAny_Call_Name_kw (ld_glob I hg hm (PySem.W.callWith_K0 I.kIn M.T.kC ?_) hdb)
  refine made_pos (us := []) (vs := []) (P := PX0 C H) M.T M.iC M.tI M.F1 hr M.hb I .nil (by simp) (fun a _ => ⟨a, rfl, upd_same, rfl, rfl⟩) fun u s' m => m.rse M.T fun a H2 hn p => ?_
  unfold PX0 at p
  subst p
  exact ⟨none, upd_same, by rw [del_upd hn]; exact h⟩
end
end L2

set_option maxHeartbeats 400000
/-! G.Exn5: C(e) in the language; raise. -/
namespace G
open PySem L2 PyProof.Rows
section
variable {g : Cg} {X : Cx} {R : Rn} {W : WD} {σ : St} {e : Env} {H : Hp} {Ls : Nat → List Addr} {F : List Addr} {sub : Nat → List Nat}
theorem Good.newX {a d c : Addr} {f : Str} {v : V} {o : Option Addr} {ho : HO} (gd : Good R σ e H Ls F) (ha : H a = none) (hd : H d = none) (ne : d ≠ a) : Good R σ e (upd (upd H d ho) a (ExG c a o)) Ls F ∧ Step H (Bn R Ls F) (upd (upd H d ho) a (ExG c a o)) (Bn R Ls F) F := by
  obtain ⟨g1, s1⟩ := gd.newT (o := ho) hd
  obtain ⟨g2, s2⟩ := g1.newT (o := ExG c a o) (a := a) (by rw [upd_ne (Ne.symm ne)]; exact ha)
  exact ⟨g2, s1.trans s2 fun a z => z⟩
theorem not_bn {a : Addr} (gd : Good R σ e H Ls F) (ha : H a = none) : ¬ Bn R Ls F a := fun z => by
  obtain ⟨o, q⟩ := gd.has a z
  rw [ha] at q
  cases q
theorem mk_run1 {c : Nat} {f : Str} {y : E} {Q : VK} (hf : g.R.cf c = [f]) (h : tV g.R g.W (ev g.sub g.F (.mk c (.cons y .nil))).val σ H Q) :
    tXv (g.R.ca c) f (tCons (tP g.R g.W (plOf y (ev g.sub g.F y).val)) tNil) σ H Q := by
  have h1 := vl_run (T := fun vs H' => ∀ x, vs = [x] → ∀ a d, H' a = none → H' d = none → d ≠ a → Q (.ref a) (upd (upd H' d (.xd [(f, x)])) a (ExG (g.R.ca c) a (some d)))) h fun l e' vs H' H0 B0 Ls' F h st gd rp x ev a d ha hd ne => by
    subst ev
    obtain ⟨_, h2⟩ := tst_all h no_V
    obtain ⟨g2, s2⟩ := gd.newX (v := x) (f := f) (ho := .xd [(f, x)]) (c := g.R.ca c) (o := some d) ha hd ne
    have k := QK.of st h2
    refine k (.ref a) _ [] s2 g2 ?_
    simp only [Rep]
    have hl := rp.length
    have na := not_bn gd ha
    have nd := not_bn gd hd
    refine ⟨trivial, a, some d, [x], rfl, upd_same, na, rp.by s2 (fun _ z => nomatch z), by rw [hf]; simpa using hl, .inr ⟨d, rfl, nd, ?_⟩⟩
    rw [upd_ne ne, upd_same, hf]
    rfl
  exact tP_mono (tA_1 h1) fun x H1 z => ⟨x, rfl, z x rfl⟩
theorem mk_run0 {c : Nat} {Q : VK} (hf : g.R.cf c = []) (h : tV g.R g.W (ev g.sub g.F (.mk c .nil)).val σ H Q) : ∀ a, H a = none → Q (.ref a) (upd H a (ExG (g.R.ca c) a none)) := by
  have h1 := vl_run (T := fun vs H' => vs = [] → ∀ a, H' a = none → Q (.ref a) (upd H' a (ExG (g.R.ca c) a none))) h fun l e' vs H' H0 B0 Ls' F h st gd rp ev a ha => by
    subst ev
    obtain ⟨_, h2⟩ := tst_all h no_V
    have k := QK.of st h2
    obtain ⟨g2, s2⟩ := gd.newT (o := ExG (g.R.ca c) a none) ha
    refine k (.ref a) _ [] s2 g2 ?_
    simp only [Rep]
    have hl : 0 = (l.map (·.2)).length := rp.length
    exact ⟨trivial, a, none, [], rfl, upd_same, not_bn gd ha, rp.by s2 (fun _ z => nomatch z), by rw [hf]; exact hl, .inl ⟨hl.symm, rfl⟩⟩
  exact tA_nil h1 rfl
variable {C fI : Addr} {k c : Nat} {fd : FuncData} {x f : Str} {a : Expr} {y : E} {p p2 pos kp : Pos}
theorem je_mk1 {p₀ : Str} (hC : g.R.ca c = C) (hf : g.R.cf c = [f]) (M : MkX X C fI k fd [("self" : Str), p₀] (spX C f)) (hr : Room (k + 1) X.A) (hg : Gl X x) (hm : X.mg x = some (.ref C)) (ha : JE g X a y) (hdb : (x == ("__debug__" : Str)) = false := by decide) (z : Pl1 X pos a [] := by exact {}) :
    JE g X (.Call (.Name x p) [a] [] pos) (.mk c (.cons y .nil)) := by
  subst hC
  exact .of ((pe_xv M hr hg hm (pa_cons ha.plc pa_nil z.he) hdb z.he z.hpl).imp fun σ H Q h => mk_run1 hf h) (fun _ => rfl) rfl fun _ => rfl
theorem je_mkk {f₀ : Str} (hC : g.R.ca c = C) (hf : g.R.cf c = [f]) (M : MkX X C fI k fd [("self" : Str), f₀] (spX C f)) (hk : ∀ (s : Shared) (u w : Value), BindsTo s fd ⟨[u], [(f₀, w)]⟩ [("self", u), (f₀, w)]) (hr : Room (k + 1) X.A) (hg : Gl X x) (hm : X.mg x = some (.ref C)) (ha : JE g X a y) (hdb : (x == ("__debug__" : Str)) = false := by decide)
    (hall : (backToKw pos (keywordEach [⟨some f₀, a, kp⟩] X.env)).all (·.1.isSome) = true := by rfl) (hks : (backToKw pos (keywordEach [⟨some f₀, a, kp⟩] X.env)).filterMap (·.1) = [f₀] := by rfl)
    (hpl : ((backTo pos (starEach [] X.env)).any (·.1) || (backToKw pos (keywordEach [⟨some f₀, a, kp⟩] X.env)).any (·.1.isNone)) = false := by rfl) : JE g X (.Call (.Name x p) [] [⟨some f₀, a, kp⟩] pos) (.mk c (.cons y .nil)) := by
  subst hC
  exact .of ((pe_xk M hk hr hg hm ha.plc hdb hall hks hpl).imp fun σ H Q h => mk_run1 hf h) (fun _ => rfl) rfl fun _ => rfl
theorem je_mk0 (hC : g.R.ca c = C) (hf : g.R.cf c = []) (M : MkX X C fI k fd [("self" : Str)] (spX0 C)) (hr : Room (k + 1) X.A) (hg : Gl X x) (hm : X.mg x = some (.ref C)) (hdb : (x == ("__debug__" : Str)) = false := by decide) : JE g X (.Call (.Name x p) [] [] pos) (.mk c .nil) := by
  subst hC
  exact .of ((pe_xv0 M hr hg hm hdb).imp fun σ H Q h => mk_run0 hf h) (fun _ => rfl) rfl fun _ => rfl

/-! ### raise -/
theorem vlS_run {ma : M (List Pl)} {f : List (Nat × D) → M Fl} {D : Ends} {T : List V → Hp → Prop} (h : tS R W (mb ma fun ps => mb (vlPs ps) f) D σ H)
    (k : ∀ (l : List (Nat × G.D)) (e' : Env) (vs : List V) (H' H0 : Hp) (B0 : Addr → Prop) (Ls' : Nat → List Addr) (F : List Addr), (f l e').All (PostS R W H0 B0 F D) → Step H0 B0 H' (Bn R Ls' F) F → Good R σ e' H' Ls' F → Reps R H' (Bn R Ls' F) 0 (l.map (·.2)) vs [] → T vs H') : tA R W ma σ H T := by
  obtain ⟨e, Ls, F, G, h⟩ := h
  refine tA_then G h (fun _ _ z => err_S z) no_S fun ps e1 vs H1 Ls1 L1 h1 s1 g1 p1 => ?_
  obtain ⟨l, e2, Ls2, h2, g2, s2, r2⟩ := vlPs_all g1 p1 (all_mb.mp h1) no_S
  refine k l e2 vs H1 H (Bn R Ls F) Ls2 F h2 ⟨s1.ext, s1.frm, fun a z => ?_⟩ g2 r2
  rcases s2.bn a z with y | y
  · exact s1.bn a y
  · obtain ⟨o, q⟩ := g2.has a z
    rw [q] at y
    cases y
theorem js_rse1 {p₀ : Str} (C' : Cok X) (hC : g.R.ca c = C) (hf : g.R.cf c = [f]) (M : MkX X C fI k fd [("self" : Str), p₀] (spX C f)) (tk : Takes X (wX g.W)) (hr : Room (k + 1) X.A) (hg : Gl X x) (hm : X.mg x = some (.ref C)) (ha : JE g X a y) (hdb : (x == ("__debug__" : Str)) = false := by decide) (z : Pl1 X p2 a [] := by exact {}) :
    JS g X (.Raise (some (.Call (.Name x p) [a] [] p2)) none pos) (.rse c (.cons y .nil)) := by
  subst hC
  refine ⟨(ps_raise C'.calm tk (pmk_x M hr hg hm (pa_cons ha.plc pa_nil z.he) hdb z.he z.hpl)).imp fun D σ H h => ?_⟩
  have h1 := vlS_run (T := fun vs H' => ∀ x, vs = [x] → ∀ d, H' d = none → wX g.W (.ref (g.R.ca c)) (some d) σ (upd H' d (.xd [(f, x)]))) h fun l e' vs H' H0 B0 Ls' F h st gd rp x ev d hd => by
    subst ev
    obtain ⟨_, h2⟩ := tst_all h no_S
    obtain ⟨g2, s2⟩ := gd.newT (o := .xd [(f, x)]) hd
    have hl := rp.length
    exact ⟨_, h2 σ _ Ls' (st.trans s2 fun a z => z) g2 _ _ ⟨c, _, [x], rfl, rfl, rp.by s2 (fun _ z => nomatch z), by rw [hf]; simpa using hl, .inr ⟨d, rfl, not_bn gd hd, by rw [upd_same, hf]; rfl⟩⟩⟩
  exact tP_mono (tA_1 h1) fun x H1 z => ⟨x, rfl, z x rfl⟩
theorem js_rse0 (C' : Cok X) (hC : g.R.ca c = C) (hf : g.R.cf c = []) (M : MkX X C fI k fd [("self" : Str)] (spX0 C)) (tk : Takes X (wX g.W)) (hr : Room (k + 1) X.A) (hg : Gl X x) (hm : X.mg x = some (.ref C)) (hdb : (x == ("__debug__" : Str)) = false := by decide) :
    JS g X (.Raise (some (.Call (.Name x p) [] [] p2)) none pos) (.rse c .nil) := by
  subst hC
  refine ⟨(ps_raise C'.calm tk (pmk_x0 M hr hg hm hdb)).imp fun D σ H h => ?_⟩
  have h1 := vlS_run (T := fun vs H' => vs = [] → wX g.W (.ref (g.R.ca c)) none σ H') h fun l e' vs H' H0 B0 Ls' F h st gd rp ev => by
    subst ev
    obtain ⟨_, h2⟩ := tst_all h no_S
    have hl : 0 = (l.map (·.2)).length := rp.length
    exact ⟨_, h2 σ _ Ls' st gd _ _ ⟨c, _, [], rfl, rfl, rp, by rw [hf]; exact hl, .inl ⟨hl.symm, rfl⟩⟩⟩
  exact tA_nil h1 rfl
end
end G

set_option maxHeartbeats 400000
/-! G.Exn6: try .. except, the error caught kept as a datum. -/
namespace L2
open PySem PySem.Spec PyProof.Rows
section
variable {X : Cx} {pins : List (Addr × Obj)} {σ : St} {H : Hp} {s sI : Shared} {a : Addr} {o : HO} {oe : Obj} {vs : Array Value}
/-- an object that stands, ours and not tracked as yet, is tracked -/
theorem Inv.track (I : Inv X pins σ H s) (n0 : X.s_0.heap.get? a = none) (hn : H a = none) (he : s.heap.get? a = some oe) (hd : oe.data = .fields vs) (nL : a ≠ X.env.locals) (np : ∀ p ∈ X.pn ++ pins, p.1 ≠ a) (new : ObjOk X.prog X.w (upd H a o) s.heap a o) : Inv X pins σ (upd H a o) s := by
  refine ⟨I.ok, I.os, I.bare, ⟨I.base.keep, I.base.slot, fun b u e n hx => ?_, I.base.there, fun b xs e => ?_, fun b u v e => ?_, fun b ps e => ?_⟩, I.loc, I.cell, ?_, fun x c e => ?_, fun p hp => ?_, fun b u e => ?_, I.len⟩
  · rw [upd_ne fun z => by rw [z, n0] at e; cases e]
    exact I.base.free b u e n hx
  · have q := I.base.tups b xs e
    rw [upd_ne (ne_of_none q hn)]
    exact q
  · have q := I.base.frzs b u v e
    rw [upd_ne (ne_of_none q hn)]
    exact q
  · obtain ⟨m, q⟩ := I.base.tbls b ps e
    exact ⟨m, by rw [upd_ne (ne_of_none q hn)]; exact q⟩
  · rw [upd_ne (Ne.symm nL)]
    exact I.free
  · obtain ⟨v, o', q, z⟩ := I.cell x c e
    rw [upd_ne fun y => by
      rw [y, he] at q
      cases q
      rw [hd] at z
      cases z]
    exact I.freeC x c e
  · obtain ⟨h1, h2, h3⟩ := I.pin p hp
    exact ⟨h1, by rw [upd_ne (np p hp)]; exact h2, h3⟩
  · by_cases hb : b = a
    · subst hb
      rw [upd_same] at e
      cases e
      exact new
    · rw [upd_ne hb] at e
      exact (I.hok b u e).stay (fun c v _ q => q) (fun c q => by rw [upd_ne (ne_of_none q hn)]; exact q) fun c xs q => by rw [upd_ne (ne_of_none q hn)]; exact q
/-- the context of an except suite, the error tracked -/
abbrev Cx.suiteT (X : Cx) (a : Addr) (pn : List (Addr × Obj)) : Cx := { X with A := X.A.mark (some (.ref a)), calm := false, pn := pn, xe := fun _ _ => False }
theorem Cx.Ok.suiteT (ok : X.Ok) (a : Addr) (pn : List (Addr × Obj)) : (X.suiteT a pn).Ok :=
  ⟨ok.mod, ok.kind, ok.glob, ok.blt, ok.above, ok.inj, ok.has, ok.cab, (fun z => absurd (show false = true from z) Bool.false_ne_true), ok.frames, ok.stk, ok.exf, ok.bs, ok.bsz, ok.noex, ok.exfs, ok.funs, ok.frf⟩
theorem Inv.suiteT (I : Inv X pins σ H s) (a : Addr) : Inv (X.suiteT a (X.pn ++ pins)) [] σ H s :=
  ⟨I.ok.suiteT _ _, I.os, I.bare, I.base, I.loc, I.cell, I.free, I.freeC, fun p hp => I.pin p (by rw [List.append_nil] at hp; exact hp), I.hok, I.len⟩
theorem Inv.unsuiteT {pn' : List (Addr × Obj)} (I : Inv (X.suiteT a (X.pn ++ pins)) pn' σ H s) (ok : X.Ok) : Inv X pins σ H s :=
  ⟨ok, I.os, I.bare, I.base, I.loc, I.cell, I.free, I.freeC, fun p hp => I.pin p (List.mem_append_left _ hp), I.hok, I.len⟩
/-- where a new error stands, nothing stood at the entry -/
theorem sky_new {B : Heap} (I : Inv X pins σ H sI) (hex : X.ex = []) (nb : ∀ b o, sI.heap.get? b = some o → b ∉ frs X.stack → B.get? b = some o) (hB : B.get? a = none) (nf : a ∉ frs X.stack) : X.s_0.heap.get? a = none ∧ sI.heap.get? a = none := by
  have h1 : sI.heap.get? a = none := by
    cases e : sI.heap.get? a with
    | none => rfl
    | some o =>
      rw [nb a o e nf] at hB
      cases hB
  refine ⟨?_, h1⟩
  cases e : X.s_0.heap.get? a with
  | none => rfl
  | some o =>
    obtain ⟨o', q⟩ := I.base.there a o e (by rw [hex]; exact fun z => nomatch z)
    rw [h1] at q
    cases q
end
section
variable {X : Cx} {x n : Str} {c : Addr} {i : Nat} {body suite : List Stmt} {b₀ : Stmt} {np pos pos' : Pos} {tb : WX → TS} {ts : TS} {Wout : WX}
/-- what the clause wishes of an error of the body: is it of the class at c, the suite runs with it at a, tracked -/
def wTk (K : PySem.W.Frag) (c : Addr) (ts : Addr → St → Hp → Prop) (Wout : WX) : WX := fun cls d σ H =>
  ∃ C b, cls = .ref C ∧ PySem.W.exmOne K cls (.ref c) = some b ∧ (b = true → ∀ a, H a = none → ts a σ (upd H a (G.ExG C a d))) ∧ (b = false → Wout cls d σ H)
/-- behind the suite: what is wanted, the error's name gone -/
def EndsG (D : Ends) (i : Nat) : Ends := { nx := fun σ' H' => D.nx (σ'.set i none) H', rt := D.rt, bk := fun σ' H' => D.bk (σ'.set i none) H', ct := fun σ' H' => D.ct (σ'.set i none) H' }
theorem ps_tryT {nm : Option Str} (hs : X.stack = X.env :: X.outer) (hf : X.env.frame = some X.env.locals) (hex : X.ex = []) (hN : X.N.Nodup) (hnm : ∀ n, nm = some n → X.N[i]? = some n ∧ X.env.kindOf n = some .local) (hc : Names X x (.ref c)) (tk : Takes X Wout)
    (hb : ∀ (W : WX) (pn : List (Addr × Obj)) (xe : Value → Shared → Prop), Takes (X.tr pn xe) W → PassesOwn (model X.prog X.w) X.A X.env xe → PSs (X.tr pn xe) body (tb W))
    (hsu : ∀ (a : Addr) (pn : List (Addr × Obj)), PSs (X.suiteT a pn) (b₀ :: suite) ts) :
    PS X (.Try body [.ExceptHandler (some (.Name x np)) nm (b₀ :: suite) pos'] [] [] pos)
      (fun D σ H => tb (wTk X.K c (fun a σ H => match nm with | some _ => ts (EndsG D i) (σ.set i (some (.ref a))) H | none => ts D σ H) Wout) D σ H) := by
  refine ⟨fun pins s σ H D I h => ?_⟩
  have ok := I.ok
  have hfr : X.A.frames = some (X.env :: X.outer) := by rw [ok.frames, hs]
  refine wpAny_Try_except ?_
  refine wpAny_mono ((hb _ (X.pn ++ pins) (fun e s₁ => wpAny (model X.prog X.w) X.A (noteFrame e X.env) (fun _ s₂ => wpAny (model X.prog X.w) X.A (setFlight e none) (fun _ s₃ =>
    wpAny (model X.prog X.w) X.A (handleBy e X.env [.ExceptHandler (some (.Name x np)) nm (b₀ :: suite) pos']) (SP X pins D) X.xe s₃) X.xe s₂) X.xe s₁) (fun u s' xx => ?_) PassesOwn.looking).run [] s σ H D (I.toTry _) h) (fun f s1 hsp => ?_) (fun e s1 he => he)
  · obtain ⟨a, B, sI, pins', σ', H', cls, d, rfl, J', nb, up, sky, na, os, ag, C, b, rfl, hb1, hyes, hno⟩ := xx
    have J : Inv X pins σ' H' sI := J'.ofTry ok
    have sky' : Sky B (X.env :: X.outer) a (Zc (.ref C) d) X.env.locals s'.heap := by rw [← hs]; exact sky
    show wpAny (model X.prog X.w) X.A (noteFrame (.ref a) X.env) _ _ _
    refine Sky.land Zc.steady hfr hf sky' fun h3 fl3 up3 => ?_
    have J3 : Inv X pins σ' H' { s' with heap := h3 } := J.landed nb fl3.1 (up.trans up3) os ag
    obtain ⟨oe3, vs3, he3, hz3, hd3⟩ := fl3.there
    have nfr : a ∉ frs (X.env :: X.outer) := fun hm => by
      obtain ⟨_, o', e', hnf⟩ := fl3.2.2.1.mem hm
      rw [he3] at e'
      cases e'
      exact hnf _ hd3
    have nL : a ≠ X.env.locals := fun z => nfr (List.mem_filterMap.mpr ⟨X.env, List.mem_cons_self, by rw [hf, z]⟩)
    obtain ⟨n0, nI⟩ := sky_new J hex nb fl3.2.1 (by rw [hs]; exact nfr)
    have npn : ∀ p ∈ X.pn ++ pins, p.1 ≠ a := fun p hp z => by
      have q := (J.pin p hp).1
      rw [z, nI] at q
      cases q
    refine wpAny_handleBy_cons (codeAny_handlers_test ?_) (by intro q; cases q)
    have LT : PySem.W.Looks (model X.prog X.w) h3 (typeOf (.ref a)) (.ref C) := fun A Q E s k q => wpAny_typeOf_ref (k _ _ he3) (by rw [hz3.1]; exact q)
    have LM := PySem.W.exm_one (M := model X.prog X.w) (J3.kIn) LT hb1
    have test : ∀ {Q : Value → Shared → Prop} {E : Value → Shared → Prop}, Q (.ref c) { s' with heap := h3 } → wpAny (model X.prog X.w) (X.A.mark (some (.ref a))) (eval (.Name x np) X.env) Q E { s' with heap := h3 } := fun {Q E} q => by
      obtain ⟨hg, hdbg, hm | ⟨hm, hv, hnn⟩⟩ := hc
      · exact ld_glob (X := X.suiteT a (X.pn ++ pins)) (J3.suiteT a) hg hm q hdbg
      · exact ld_blt (X := X.suiteT a (X.pn ++ pins)) (J3.suiteT a) hg hm hv q hnn hdbg
    refine test (LM.here ?_)
    cases b with
    | true =>
      have trk : ∀ h4, HandSPX.FlyingZ B (X.env :: X.outer) a (Zc (.ref C) d) h4 → h3.UpToSlots h4 → Inv X pins σ' (upd H' a (G.ExG C a d)) { s' with heap := h4 } := fun h4 fl4 up4 => by
        have J4 : Inv X pins σ' H' { s' with heap := h4 } := J.landed nb fl4.1 ((up.trans up3).trans up4) os ag
        obtain ⟨oe4, vs4, he4, hz4, hd4⟩ := fl4.there
        exact J4.track n0 na he4 hd4 nL npn ⟨⟨oe4, vs4, he4, hz4.1, hz4.2, hd4⟩, ⟨_, he4⟩, fun _ _ ⟨o, v, q, r⟩ k => ⟨o, v, k o q, r⟩⟩
      have hy := hyes rfl a na
      cases nm with
      | some n =>
        obtain ⟨hi, hln⟩ := hnm n rfl
        refine codeAny_handlers_suite_as ?_
        refine HandSPX.lands_againZ fl3 fun h4 fl4 up4 => ?_
        refine store_ok (X := X.suiteT a (X.pn ++ pins)) (v := .ref a) ((trk h4 fl4 up4).suiteT a) hN hi (.inl hln) rfl (fun s5 S5 => ?_) (.inr hln)
        refine wpAny_mono ((hsu a (X.pn ++ pins)).run [] s5 _ _ _ S5 hy) (fun f s6 hsp => ?_) (fun _ _ z => False.elim z)
        have end_ : ∀ {σ6 : St} {H6 : Hp} {Q : Shared → Prop}, Inv (X.suiteT a (X.pn ++ pins)) [] σ6 H6 s6 → (∀ s7, Inv X pins (σ6.set i none) H6 s7 → Q s7) →
            wpAny (model X.prog X.w) X.A (do bindName X.env n .none; unbindBehindTheSuite X.env n pos') (fun _ s7 => Q s7) X.xe s6 := fun {σ6 H6 Q} S6 hq => gone_ok (S6.unsuiteT ok) hN hi hln hq
        match f, hsp with
        | .next, ⟨σ6, H6, S6, q6⟩ => exact end_ S6 fun s7 J7 => ⟨_, _, J7, q6⟩
        | .brk, ⟨σ6, H6, S6, q6⟩ => exact end_ S6 fun s7 J7 => ⟨_, _, J7, q6⟩
        | .cont, ⟨σ6, H6, S6, q6⟩ => exact end_ S6 fun s7 J7 => ⟨_, _, J7, q6⟩
        | .ret u, ⟨v6, σ6, H6, S6, r6, q6⟩ => exact end_ S6 fun s7 J7 => ⟨_, _, _, J7, r6, q6⟩
      | none =>
        refine codeAny_handlers_suite ?_
        refine HandSPX.lands_againZ fl3 fun h4 fl4 up4 => ?_
        refine wpAny_mono ((hsu a (X.pn ++ pins)).run [] _ _ _ _ ((trk h4 fl4 up4).suiteT a) hy) (fun f s6 hsp => ?_) (fun _ _ z => False.elim z)
        match f, hsp with
        | .next, ⟨σ6, H6, S6, q6⟩ => exact ⟨_, _, S6.unsuiteT ok, q6⟩
        | .brk, ⟨σ6, H6, S6, q6⟩ => exact ⟨_, _, S6.unsuiteT ok, q6⟩
        | .cont, ⟨σ6, H6, S6, q6⟩ => exact ⟨_, _, S6.unsuiteT ok, q6⟩
        | .ret u, ⟨v6, σ6, H6, S6, r6, q6⟩ => exact ⟨_, _, _, S6.unsuiteT ok, r6, q6⟩
    | false =>
      show wpAny _ X.A (handleBy (.ref a) X.env []) _ _ _
      refine wpAny_handleBy_nil ?_
      obtain ⟨k1, k2, k3, oe, vs, T, oT, ts', he, hz, hd, h1, hr⟩ := id fl3
      unfold PySem.passOn
      refine wpAny_bind (wpAny_field he hd h1 ?_)
      rw [if_neg (show ¬ ((Value.ref T == Value.none) = true) from by simp)]
      have fin : wpAny (model X.prog X.w) X.A (setFlight (.ref a) X.env.frame) (fun _ s4 => wpAny (model X.prog X.w) X.A (throw (.ref a) : Sem Flow) (SP X pins D) X.xe s4) X.xe { s' with heap := h3 } := by
        rw [hf]
        refine HandSPX.setFlight_upZ fl3 fun h4 hh4 up4 => wpAny_throw (tk _ _ ⟨a, B, sI, pins, σ', H', .ref C, d, rfl, J, nb, (up.trans up3).trans up4, .inr (.inr (by rw [hs]; exact hh4)), na, os, ag, hno rfl⟩)
      first
        | exact wpAny_bind (wpAny_pure (wpAny_bind fin))
        | exact wpAny_bind fin
  · match f, hsp with
    | .next, ⟨σ', H', J', q⟩ => exact wpAny_execs_nil ⟨σ', H', J'.ofTry ok, q⟩
    | .brk, ⟨σ', H', J', q⟩ => exact ⟨σ', H', J'.ofTry ok, q⟩
    | .cont, ⟨σ', H', J', q⟩ => exact ⟨σ', H', J'.ofTry ok, q⟩
    | .ret u, ⟨v, σ', H', J', r, q⟩ => exact ⟨v, σ', H', J'.ofTry ok, r, q⟩
end
end L2

set_option maxHeartbeats 400000
/-! G.Exn7: try in the language. -/
namespace G
open PySem L2 PyProof.Rows
section
variable {g : Cg} {X : Cx} {R : Rn} {W : WD} {σ : St} {e : Env} {H : Hp} {Ls : Nat → List Addr} {F : List Addr} {sub : Nat → List Nat}
/-- no error leaves -/
abbrev wNoD : WD := fun _ _ _ _ _ => False
theorem calm_all {α : Type} {m : M α} {P : Rs α → Prop} (h : (calmM m e).All P) (hn : ¬ P .no) : (m e).All fun r => match r with | .ok a e' => P (.ok a e') | _ => False := by
  unfold calmM at h
  refine (Tr.all_bind.mp h).mono fun r hr => ?_
  match r, hr with
  | .ok a e', hr => exact hr
  | .err x e', hr => exact hn hr
  | .no, hr => exact hn hr
theorem wipe1 {i : Nat} : wipe σ [i] = σ.set i none := rfl
theorem wipeE1 {i : Nat} : wipeE [i] e = e.set i none := rfl
/-- behind a suite its name goes -/
theorem gone_run {i : Nat} {D : Ends} {H0 : Hp} {B0 : Addr → Prop} {r : Rs Fl} (h : (mk (fun f => mb (goneE (some i)) fun _ => pu f) r).All (PostS R W H0 B0 F D)) (hne : ∀ x e, r ≠ .err x e) : PostS R wNoD H0 B0 F (EndsG D i) r := by
  match r, h with
  | .ok .nx e', h =>
    intro σ' H' Ls' s g
    obtain ⟨g2, s2⟩ := g.forget (own := [i])
    rw [wipe1, wipeE1] at g2
    exact h _ _ _ (s.trans s2 fun a z => z) g2
  | .ok .bk e', h =>
    intro σ' H' Ls' s g
    obtain ⟨g2, s2⟩ := g.forget (own := [i])
    rw [wipe1, wipeE1] at g2
    exact h _ _ _ (s.trans s2 fun a z => z) g2
  | .ok .ct e', h =>
    intro σ' H' Ls' s g
    obtain ⟨g2, s2⟩ := g.forget (own := [i])
    rw [wipe1, wipeE1] at g2
    exact h _ _ _ (s.trans s2 fun a z => z) g2
  | .ok (.rt n d) e', h =>
    intro v σ' H' Ls' Lt s g rp
    obtain ⟨g2, s2⟩ := g.forget (own := [i])
    rw [wipe1, wipeE1] at g2
    exact h v _ _ _ Lt (s.trans (F1 := F) ⟨s2.ext, fun a z => rfl, s2.bn⟩ fun a z => z) g2 (rp.by s2 fun _ _ => rfl)
  | .err x e', h => exact absurd rfl (hne x e')
  | .no, h => exact h
theorem js_try {nm : Option Str} {o : Option Nat} {x : Str} {C : Addr} {c : Nat} {body suite : List Stmt} {b₀ : Stmt} {np pos pos' : Pos} {bs hs : Ss} (C' : Cok X) (T : XT X.K g.R.ca g.R.cf g.sub) (tk : Takes X (wX g.W)) (hC : g.R.ca c = C) (hg : Gl X x) (hm : X.mg x = some (.ref C))
    (hb : ∀ (W : WD) (pn : List (Addr × Obj)) (xe : Value → Shared → Prop), Takes (X.tr pn xe) (wX W) → PassesOwn (model X.prog X.w) X.A X.env xe → JSs { g with W := W } (X.tr pn xe) body bs)
    (hh : ∀ (a : Addr) (pn : List (Addr × Obj)), JSs { g with W := wNoD } (X.suiteT a pn) (b₀ :: suite) hs)
    (hnm : (nm = none ∧ o = none) ∨ ∃ n i, nm = some n ∧ o = some i ∧ X.N[i]? = some n ∧ X.env.kindOf n = some .local := by first | exact .inl ⟨rfl, rfl⟩ | exact .inr ⟨_, _, rfl, rfl, rfl, rfl⟩)
    (hst : X.stack = X.env :: X.outer := by rfl) (hf : X.env.frame = some X.env.locals := by rfl) (hex : X.ex = [] := by rfl) (hdb : (x == ("__debug__" : Str)) = false := by decide) :
    JS g X (.Try body [.ExceptHandler (some (.Name x np)) nm (b₀ :: suite) pos'] [] [] pos) (.try_ bs c o hs) := by
  subst hC
  refine ⟨(ps_tryT (i := o.getD 0) (tb := fun W => fun D σ H => ∃ Wd : WD, (∀ c d σ H, wX Wd c d σ H → W c d σ H) ∧ tS g.R Wd (evSs g.sub g.F bs) D σ H) (Wout := wX g.W) hst hf hex C'.nd (fun n e => ?_) ⟨hg, hdb, .inl hm⟩ tk (fun W pn xe tkW po => ?_) fun a pn => (hh a pn).run).imp fun D σ H z => ?_⟩
  · rcases hnm with ⟨h1, h2⟩ | ⟨n', i, h1, h2, h3, h4⟩
    · rw [h1] at e
      cases e
    · rw [h1] at e
      cases e
      rw [h2]
      exact ⟨h3, h4⟩
  · exact ⟨fun pins s σ H D I ⟨Wd, h1, h2⟩ => (hb Wd pn xe (tkW.imp h1) po).run.run pins s σ H D I h2⟩
  · obtain ⟨e, Ls, F, G, z⟩ := z
    have z : (evSs g.sub g.F bs e).All fun r => (tryK g.sub c o (evSs g.sub g.F hs) r).All (PostS g.R g.W H (Bn g.R Ls F) F D) := Tr.all_bind.mp z
    refine ⟨fun x cls dd σ' H' => ∃ e' Ls', Good g.R σ' e' H' Ls' F ∧ Step H (Bn g.R Ls F) H' (Bn g.R Ls' F) F ∧ XRep g.R H' (Bn g.R Ls' F) x cls dd ∧ (tryK g.sub c o (evSs g.sub g.F hs) (.err x e')).All (PostS g.R g.W H (Bn g.R Ls F) F D), ?_, e, Ls, F, G, z.mono fun r hr => ?_⟩
    · rintro cls dd σ' H' ⟨x, e', Ls', g', st, xr, h⟩
      obtain ⟨k, fs, vs, rfl, rfl, rp, xd⟩ := id xr
      unfold tryK at h
      simp only at h
      split at h
      · exact h.elim
      · rename_i hz
        simp only [Bool.or_eq_true, not_or, Bool.not_eq_true] at hz
        refine ⟨g.R.ca k, (g.sub k).contains c, rfl, T.ex k c hz.1 hz.2, fun hc a ha => ?_, fun hc => ?_⟩
        · rw [if_pos hc] at h
          obtain ⟨g2, s2⟩ := g'.newT (o := ExG (g.R.ca k) a dd) ha
          have nB := not_bn g' ha
          have rx : Rep g.R (upd H' a (ExG (g.R.ca k) a dd)) (Bn g.R Ls' F) 0 (.exn k fs) (.ref a) [] := by
            simp only [Rep]
            exact ⟨trivial, a, dd, vs, rfl, upd_same, nB, rp.by s2 (fun _ z => nomatch z), xd.step s2.ext s2.bn⟩
          have st2 := st.trans s2 fun a z => z
          rcases hnm with ⟨rfl, rfl⟩ | ⟨n, i, rfl, rfl, hi, hk⟩
          · have h : (mb (calmM (evSs g.sub g.F hs)) (fun f => mb (goneE none) fun _ => pu f) e').All (PostS g.R g.W H (Bn g.R Ls F) F D) := h
            have h2 := calm_all (all_mb.mp h) fun z => z
            refine ⟨e', Ls', F, g2, h2.mono fun r hr => ?_⟩
            match r, hr with
            | .ok .nx e2, hr => exact fun σ2 H2 L2 s g => hr σ2 H2 L2 (st2.trans s fun a z => z) g
            | .ok .bk e2, hr => exact fun σ2 H2 L2 s g => hr σ2 H2 L2 (st2.trans s fun a z => z) g
            | .ok .ct e2, hr => exact fun σ2 H2 L2 s g => hr σ2 H2 L2 (st2.trans s fun a z => z) g
            | .ok (.rt n d) e2, hr => exact fun v σ2 H2 L2 L s g x => hr v σ2 H2 L2 L (st2.trans s fun a z => z) g x
            | .err x e2, hr => exact hr.elim
            | .no, hr => exact hr
          · have h : (mb (setE i (0, .exn k fs)) (fun _ => mb (calmM (evSs g.sub g.F hs)) (fun f => mb (goneE (some i)) fun _ => pu f)) e').All (PostS g.R g.W H (Bn g.R Ls F) F D) := h
            obtain ⟨hl, h2⟩ := setE_all (all_mb.mp h) fun z => z
            obtain ⟨g3, s3⟩ := Good.put (Lt := []) g2 rx hl
            have h3 := calm_all (all_mb.mp h2) fun z => z
            refine ⟨_, _, F, g3, h3.mono fun r hr => ?_⟩
            have st3 := st2.trans s3 fun a z => z
            match r, hr with
            | .ok f e2, hr =>
              have k := gone_run (r := .ok f e2) hr fun _ _ z => nomatch z
              match f, k with
              | .nx, k => exact fun σ2 H2 L2 s g => k σ2 H2 L2 (st3.trans s fun a z => z) g
              | .bk, k => exact fun σ2 H2 L2 s g => k σ2 H2 L2 (st3.trans s fun a z => z) g
              | .ct, k => exact fun σ2 H2 L2 s g => k σ2 H2 L2 (st3.trans s fun a z => z) g
              | .rt n d, k => exact fun v σ2 H2 L2 L s g x => k v σ2 H2 L2 L (st3.trans s fun a z => z) g x
            | .err x e2, hr => exact hr.elim
            | .no, hr => exact hr
        · rw [if_neg (by rw [hc]; exact Bool.false_ne_true)] at h
          exact ⟨_, h σ' H' Ls' st g' _ _ xr⟩
    · match r, hr with
      | .ok .nx e2, hr => exact hr
      | .ok .bk e2, hr => exact hr
      | .ok .ct e2, hr => exact hr
      | .ok (.rt n d) e2, hr => exact hr
      | .err x e2, hr => exact fun σ' H' Ls' s g cls dd xr => ⟨e2, Ls', g, s, xr, hr⟩
      | .no, hr => exact hr
end
end G

set_option maxHeartbeats 400000
/-! G.Itr: enumerate of a list. -/
namespace G
open PySem L2 PyProof.Rows
section
variable {g : Cg} {X : Cx} {R : Rn} {W : WD} {σ : St} {e : Env} {H : Hp} {Ls : Nat → List Addr} {F : List Addr} {sub : Nat → List Nat}
theorem enumD_len {l : List D} : (enumD l).length = l.length := by simp [enumD]
theorem enumD_get {l : List D} {i : Nat} {x : D} (h : (enumD l)[i]? = some x) : ∃ y, l[i]? = some y ∧ x = .tup [.int (i : Int), y] := by
  unfold enumD at h
  rw [List.getElem?_map, Option.map_eq_some_iff] at h
  obtain ⟨p, hp, rfl⟩ := h
  rw [List.getElem?_zipIdx] at hp
  cases e : l[i]? with
  | none => rw [e] at hp; cases hp
  | some y =>
    rw [e] at hp
    cases hp
    exact ⟨y, rfl, by simp⟩
/-- a new pair -/
theorem rep_pair {B : Addr → Prop} {p : Addr} {x y : D} {v w : V} (hB : ∀ p, B p → ∃ o, H p = some o) (hp : H p = none) (hx : Rep R H B 0 x v []) (hy : Rep R H B 0 y w []) : Rep R (upd H p (.tup [v, w])) B 0 (.tup [x, y]) (.ref p) [] := by
  have st : ∀ {d : D} {u : V}, Rep R H B 0 d u [] → Rep R (upd H p (.tup [v, w])) B 0 d u [] := fun {d u} r =>
    Rep.step (fun b o q _ => by rw [upd_ne fun z => by rw [z, hp] at q; cases q]; exact q) (fun b h => .inl h) 0 d u [] (fun _ z => nomatch z) r
  simp only [Rep, Reps]
  exact ⟨p, [v, w], rfl, upd_same, fun z => (by obtain ⟨o, q⟩ := hB p z; rw [hp] at q; cases q), v, [w], [], [], rfl, rfl, st hx, w, [], [], [], rfl, rfl, st hy, rfl, rfl⟩
theorem it_enumL {K : PySem.W.Frag} {a : Addr} {xs : List D} {vs : List V} : ItOk R (Ite K a) (enumD xs) (TL R a xs vs) where
  stp := fun i H B t h => ⟨vs, .of t.1, by rw [t.2.2.length, ← enumD_len]; exact h⟩
  go := fun i H B x t h => by
    obtain ⟨y, hy, _⟩ := enumD_get h
    obtain ⟨v, hv, _⟩ := t.2.2.get hy
    exact ⟨vs, v, .of t.1, hv⟩
  yld := fun i H B x v H' t h hB y => by
    obtain ⟨d, hd, rfl⟩ := enumD_get h
    obtain ⟨u, hu, ru⟩ := t.2.2.get hd
    obtain ⟨T, w, rfl, hT, rfl, hy⟩ := y
    have := hy vs (.of t.1)
    rw [hu] at this
    cases this
    exact ⟨.inr ⟨T, _, hT, rfl⟩, rep_pair hB hT (by simp [Rep]) ru⟩
  stay := fun H B H' B' F t s => t.stay s
theorem isem_enum {ds xs : List D} (h : isem .enum ds = some xs) : ∃ l, ds = [.lst l] ∧ xs = enumD l := by
  match ds, h with
  | [.lst l], h => exact ⟨l, rfl, (Option.some.inj h).symm⟩
theorem ji_enumL {a : Expr} {xs : Es} {p pos tpos : Pos} {elts : List Expr} {kk : Nat} (hg : Gl X "enumerate") (hm : X.mg "enumerate" = none) (ha : JA g X [a] xs) (hs : starEach [a] X.env = [(false, eval a X.env)] := by rfl) :
    JI g X (.Tuple elts kk tpos) (.Call (.Name "enumerate" p) [a] [] pos) .enum xs := (pi_enum hg hm ha hs).imp fun σ H K z => itM_run z fun ds ys vs H' B hi rp hb k => by
  obtain ⟨l, rfl, rfl⟩ := isem_enum hi
  obtain ⟨v', vs', rfl, r1, r2⟩ := rp.uncons
  simp only [Reps] at r2
  obtain ⟨rfl, _⟩ := r2
  simp only [Rep] at r1
  obtain ⟨p, zs, rfl, e1, nb, _, q1⟩ := r1
  exact ⟨p, zs, rfl, .of e1, k _ _ it_enumL ⟨e1, nb, q1⟩⟩
end
end G

set_option maxHeartbeats 400000
/-! G.Draw: defs by hand; the source of draws. -/
namespace G
open PySem L2 PyProof.Rows
section
variable {g : Cg} {X : Cx} {R : Rn} {W : WD} {σ : St} {e : Env} {H : Hp} {Ls : Nat → List Addr} {F : List Addr} {sub : Nat → List Nat}
/-- a def whose body is read by hand -/
theorem fnG_hand {P : Program} {w : World} {K : PySem.W.Frag} {mg : Str → Option Value} {base : Heap} {x qual : Str} {st : Stmt} {f : Addr} {fd : FuncData} {N ps : List Str} {k : Nat} {sp : Sp} (Fu : Fun K x qual st f fd) (S : FnScope N ps (defScope st)) (len : ∀ vs H Q E, sp vs H Q E → vs.length = ps.length)
    (hbody : ∀ (cdv : Value) (A : Around) (outer : List PySem.Env) (s : Shared) (H : Hp) (vs : List V) (Q : VK) (E : XK), Cok (cxOf (L2.CX P w) P w K mg base N qual (defScope st) f cdv A outer s H E) → Room k (A.deeper (envOfC qual (defScope st) s.heap.objs.size f cdv)) → sp vs H Q E →
      ∃ t, PSs (cxOf (L2.CX P w) P w K mg base N qual (defScope st) f cdv A outer s H E) (defBody st) t ∧ t { nx := fun _ H' => Q .non H', rt := Q } (L2.start N vs) H) : FnG P w K mg base (k + 1) f fd ps sp := by
  refine ⟨len, fun A outer s H args us vs Q E hr hgd e0 hb rv h => ?_⟩
  obtain ⟨oc, od, kV, doc, pm, an, cdv, ct, osl, rfl, lk, hcd⟩ := Fu.ex
  refine LamX.run_ofS lk hcd S hr e0 hb rv (len _ _ _ _ h) fun hr' => ?_
  have C : Cok (cxOf (L2.CX P w) P w K mg base N qual (defScope st) f cdv A outer s H E) := ⟨rfl, by have := hr'.un; show (A.deeper (envOfC qual (defScope st) s.heap.objs.size f cdv)).units + 200 < cLine; omega, hgd, S.nd, PassesOwn.leaving⟩
  exact hbody cdv A outer s H vs Q E C hr' h
theorem atI_0 {α : Type} {a : α} {l : List α} : atI (a :: l) 0 = some a := by simp [atI, ixN]
theorem atI_1 {α : Type} {a b : α} {l : List α} : atI (a :: b :: l) 1 = some b := by
  have h : ((1 : Int) < (l.length : Int) + 1 + 1) := by omega
  simp [atI, ixN, h]
theorem atI_2 {α : Type} {a b c : α} {l : List α} : atI (a :: b :: c :: l) 2 = some c := by
  have h : ((2 : Int) < (l.length : Int) + 1 + 1 + 1) := by omega
  simp [atI, ixN, h]
theorem atI_3 {α : Type} {a b c d : α} {l : List α} : atI (a :: b :: c :: d :: l) 3 = some d := by
  have h : ((3 : Int) < (l.length : Int) + 1 + 1 + 1 + 1) := by omega
  simp [atI, ixN, h]
theorem ixN_k {n k : Nat} (h : k < n) : ixN n (k : Int) = some k := by
  unfold ixN
  rw [if_pos (by omega), if_pos (by omega)]
  simp
/-- what a draw gives: any number below n -/
def drawF : Fn := fun ds => match ds with
  | [.rnd, .int n] => if 0 < n ∧ n < 1000000 then .ch n.toNat fun i => .ret (.ok false (.int (i : Int))) else .ret .no
  | _ => .ret .no
/-- the source of draws has gone on -/
theorem rnd_on {r : Addr × Addr} {H' : Hp} (g : Good R [] [] H nL F) (hR : R.r = some r) (ho : ∀ a, a ≠ r.1 → a ≠ r.2 → H' a = H a) (hk : RndOk H' R) : Good R [] [] H' nL F ∧ Step H (Bn R nL F) H' (Bn R nL F) F := by
  have hB : ∀ a, RnA R a ↔ (a = r.1 ∨ a = r.2) := fun a => ⟨fun ⟨r', q, z⟩ => by rw [hR] at q; cases q; exact z, fun z => ⟨r, hR, z⟩⟩
  have nF : ∀ a ∈ F, a ≠ r.1 ∧ a ≠ r.2 := fun a ha => ⟨fun z => (g.ra a ((hB a).mpr (.inl z))).1 ha, fun z => (g.ra a ((hB a).mpr (.inr z))).1 ha⟩
  have hH : ∀ a, RnA R a → ∃ o, H' a = some o := fun a ha => by
    have hk' := hk
    unfold RndOk at hk'
    rw [hR] at hk'
    obtain ⟨i, m, cs, tl, h1, h2, h3, _⟩ := hk'
    rcases (hB a).mp ha with rfl | rfl
    · exact ⟨_, h2⟩
    · exact ⟨_, h3⟩
  refine ⟨⟨g.len, (fun i n d h => by simp at h), g.nd, g.dis, g.fr, g.fd, fun a h => ?_, hk, g.ra⟩, ⟨fun a o q nb => ?_, fun a ha => ho a (nF a ha).1 (nF a ha).2, fun a h => .inl h⟩⟩
  · by_cases hr : RnA R a
    · exact hH a hr
    · have z : a ≠ r.1 ∧ a ≠ r.2 := ⟨fun z => hr ((hB a).mpr (.inl z)), fun z => hr ((hB a).mpr (.inr z))⟩
      rw [ho a z.1 z.2]
      exact g.has a h
  · rw [ho a (fun z => nb (.inr (.inr ((hB a).mpr (.inl z))))) (fun z => nb (.inr (.inr ((hB a).mpr (.inr z)))))]
    exact q
/-- a draw's end -/
theorem draw_fin {r : Addr × Addr} {n k : Int} {Q : VK} {E : XK} {H' : Hp} (g : Good R [] [] H nL F) (hR : R.r = some r) (h : (drawF [.rnd, .int n]).All (PostF R H (Bn R nL F) F Q E)) (hk : 0 ≤ k ∧ k < n) (ho : ∀ a, a ≠ r.1 → a ≠ r.2 → H' a = H a) (hr : RndOk H' R) : Q (.int k) H' := by
  unfold drawF at h
  simp only at h
  split at h
  · have h2 := h k.toNat (by omega)
    obtain ⟨g2, s2⟩ := rnd_on g hR ho hr
    have h3 : PostF R H (Bn R nL F) F Q E (.ok false (.int ((k.toNat : Nat) : Int))) := h2
    have e : ((k.toNat : Nat) : Int) = k := by omega
    rw [e] at h3
    exact h3 (.int k) H' [] s2 g2 (by simp [Rep])
  · exact h.elim
/-- what stands at a draw's begin -/
theorem draw_in {vs : List V} {f : Fn} {Q : VK} {E : XK} {ok : Rn → Prop} (hf : f = drawF) (h : fsp ok 2 f vs H Q E) : ∃ (R : Rn) (F : List Addr) (r : Addr × Addr) (n : Int) (i m : Int) (cs tl : List Int), ok R ∧ Good R [] [] H nL F ∧ R.r = some r ∧ vs = [.ref r.1, .int n] ∧ 0 < n ∧ n < 1000000 ∧
    r.1 ≠ r.2 ∧ H r.1 = some (.lst (.ref r.2 :: .int i :: .int m :: tl.map V.int)) ∧ H r.2 = some (.lst (cs.map V.int)) ∧ 0 ≤ i ∧ 0 ≤ m ∧ m < 2147483648 ∧ cs ≠ [] ∧ cs.length ≤ 63 ∧ tl.length = R.tl ∧ (drawF [.rnd, .int n]).All (PostF R H (Bn R nL F) F Q E) := by
  subst hf
  obtain ⟨R, hok, ds, F, g, rp, hl, h⟩ := h
  match ds, h with
  | [.rnd, .int n], h =>
    have h0 := h
    unfold drawF at h
    simp only at h
    split at h
    · rename_i hn
      obtain ⟨v, vs', rfl, r1, r2⟩ := rp.uncons
      obtain ⟨v2, vs2, rfl, r3, r4⟩ := r2.uncons
      simp only [Reps] at r4
      obtain ⟨rfl, _⟩ := r4
      simp only [Rep] at r1
      obtain ⟨_, r, hR, rfl⟩ := r1
      have hk := g.rnd
      unfold RndOk at hk
      rw [hR] at hk
      obtain ⟨i, m, cs, tl, h1, h2, h3, h4, h5, h6, h7, h8, h9⟩ := hk
      exact ⟨R, F, r, n, i, m, cs, tl, hok, g, hR, by rw [r3.int], hn.1, hn.2, h1, h2, h3, h4, h5, h6, h7, h8, h9, h0⟩
    · exact h.elim
  | [], h => exact h.elim
  | [_], h => simp [drawF] at h; exact h.elim
  | _ :: _ :: _ :: _, h => simp [drawF] at h; exact h.elim
end
end G

set_option maxHeartbeats 400000
/-! G.End: the head's facts, a law's end. -/
namespace G
open PySem PySem.Spec PyProof.Rows L2
/-- no list -/
def noL (o : Obj) : Bool := !(match o.cls with | .type "list" => true | _ => false)
def frN (f : Addr → Option Obj) (as : List Addr) : PySem.W.Frag := (He.frG f as).filter fun q => noL q.2
theorem frG_mem' {f : Addr → Option Obj} {as : List Addr} {a : Addr} {o : Obj} (h : (a, o) ∈ He.frG f as) : f a = some o := by
  obtain ⟨b, _, e⟩ := List.mem_filterMap.mp h
  cases hb : f b with
  | none => rw [hb] at e; cases e
  | some u =>
    rw [hb] at e
    cases e
    exact hb
theorem look_mem {a : Addr} {o : Obj} : ∀ {l : List (Addr × Obj)}, l.lookup a = some o → (a, o) ∈ l
  | [], h => by cases h
  | (b, u) :: r, h => by
    rw [List.lookup_cons] at h
    split at h
    · rename_i q
      cases h
      rw [beq_iff_eq.mp q]
      exact List.mem_cons_self
    · exact List.mem_cons_of_mem _ (look_mem h)
theorem frN_mem {f : Addr → Option Obj} {as : List Addr} {a : Addr} {o : Obj} (h : (frN f as).lookup a = some o) : f a = some o ∧ noL o = true := by
  obtain ⟨h1, h2⟩ := List.mem_filter.mp (look_mem h)
  exact ⟨frG_mem' h1, h2⟩
section
variable (bx : PySem.W.Frag → Bool) (fa : List He.Fa) (fn : List He.DefD)
abbrev AlX : Type := Bool × He.AlD
def obsX (K : PySem.W.Frag) : AlX := (bx K, He.obsD fa fn K)
def valX : AlX := (true, He.valD fn)
def obsXG (n : Nat) (f : Addr → Option Obj) : AlX := obsX bx fa fn (frN f (cStatics :: He.asD f n))
/-- what the end leans on -/
structure SaysX (K : PySem.W.Frag) : Prop where
  b : bx K = true
  d : He.SaysD fa fn K
  l : ∀ a o, K.lookup a = some o → noL o = true
def hookX (n : Nat) : PySem.W.Hook where
  α := AlX
  obs := fun s => obsXG bx fa fn n s.heap.get?
  val := fun _ => valX fn
  says := fun _ h => ∃ K : PySem.W.Frag, K.In h ∧ SaysX bx fa fn K
  of := fun _ s e => ⟨frN s.heap.get? (cStatics :: He.asD s.heap.get? n), fun a o q => (frN_mem q).1, ⟨congrArg (fun z : AlX => z.1) e, congrArg (fun z : AlX => z.2) e, fun a o q => (frN_mem q).2⟩⟩
  keeps := fun _ _ _ ⟨K, hK, c⟩ k => ⟨K, PySem.W.Frag.In.keeps hK k, c⟩
theorem obsXG_eq {n : Nat} {f : Addr → Option Obj} {s : Shared} (h : ∀ a, f a = s.heap.get? a) : obsXG bx fa fn n f = (hookX bx fa fn n).obs s := by
  have e : f = s.heap.get? := funext h
  rw [e] <;> rfl
end
/-- a def of the text by the head -/
theorem fun_of {K : PySem.W.Frag} {x qual : Str} {st : Stmt} {f : Addr} {fd : FuncData} (F : FunD K x qual (defArgs st) (defBody st) (defScope st) [] [] f fd) : Fun K x qual st f fd := by
  obtain ⟨oc, od, dV, kV, doc, pm, an, cdv, ct, osl, rfl, lk, hcd, hD, hK⟩ := F.ex
  rcases hD with ⟨_, rfl⟩ | ⟨e, _⟩
  · exact ⟨⟨oc, od, kV, doc, pm, an, cdv, ct, osl, rfl, lk, hcd⟩, F.kp⟩
  · exact absurd rfl e
/-- the law called -/
theorem law_callG {P : Program} {w : World} {K : PySem.W.Frag} {mg mb : Str → Option Value} {k : Nat} {fa a : Addr} {fd : FuncData} {x : Str} {sp : Sp} {s₁ : Shared} {vs : List Value} {ns : List Int}
    (KX : K.In s₁.heap) (hnl : ∀ a o, K.lookup a = some o → noL o = true) (hns : s₁.heap.Ns mainGlobals mg) (hb : s₁.heap.Ns builtinsNs mb) (hbb : ∀ x : Str, x ≠ "__name__" → mb x = bootBuiltins x) (hlim : s₁.heap.NoLimit) (hg : s₁.gens = #[])
    (ha : s₁.heap.get? a = some { cls := .type "list", data := .seq vs.toArray }) (hi : IntsAre vs ns) (hl : ns.length ≤ sizeLine) (hr : Room k callerA)
    (F : ∀ base : Heap, K.In base → base.Ns mainGlobals mg → FnG P w K mg base k fa fd [x] sp) (hbind : ∀ (s : Shared) (u : Value), BindsTo s fd ⟨[u], []⟩ [(x, u)])
    (hsp : ∀ (H : Hp) (o : Obj), (∀ b, b ≠ a → H b = none) → H a = some (.frz o (.lst (ns.map V.int))) → sp [.ref a] H (fun v _ => v = .bl true) fun _ _ _ => False) :
    codeAny (model P w) callerA (.call (.ref fa) ⟨[.ref a], []⟩) (fun r s' => r = .ok (.ret (.bool true)) ∧ OldK s₁.heap s'.heap ∧ s'.os = s₁.os ∧ AllBare s'.gens) s₁ := by
  have rv := vals_ints hi
  have hk : K.lookup a = none := by
    cases e : K.lookup a with
    | none => rfl
    | some o =>
      have z := KX a o e
      rw [ha] at z
      cases z
      exact absurd (hnl a _ e) (by simp [noL])
  generalize hO : ({ cls := .type "list", data := .seq vs.toArray } : Obj) = ob at ha
  obtain ⟨H, hH⟩ : ∃ H : Hp, H = fun b => if b = a then some (.frz ob (.lst (ns.map V.int))) else none := ⟨_, rfl⟩
  have Ha : H a = some (.frz ob (.lst (ns.map V.int))) := by rw [hH]; exact if_pos rfl
  have Hn : ∀ b, b ≠ a → H b = none := fun b h => by rw [hH]; exact if_neg h
  have hok : HOk P w H s₁.heap := fun b u z => by
    by_cases h : b = a
    · subst h
      rw [Ha] at z
      cases z
      subst hO
      exact ⟨ha, by rw [List.length_map]; exact hl, vs, _, rv, ha⟩
    · rw [Hn b h] at z
      cases z
  have bo : ∀ {b : Addr} {o : Obj}, s₁.heap.get? b = some o → H b = none → (hidT s₁.heap H).get? b = some o := fun e n => hidT_get e n
  have nsK : ∀ {b : Addr} {m : Str → Option Value}, s₁.heap.Ns b m → (hidT s₁.heap H).Ns b m := fun {b m} ⟨o, es, ep, e, d, r⟩ => ⟨o, es, ep, bo e (Hn b fun z => by
    subst z
    rw [ha] at e
    cases e
    subst hO
    cases d), d, r⟩
  have hKb : K.In (hidT s₁.heap H) := fun b o e => bo (KX b o e) (Hn b fun z => by rw [z, hk] at e; cases e)
  have hM : Mod K mg (hidT s₁.heap H) := ⟨hKb, nsK hns, ⟨mb, nsK hb, hbb⟩, let ⟨mc, h1, h2⟩ := hlim; ⟨mc, nsK h1, h2⟩⟩
  have e0 : Env0 P w K mg (hidT s₁.heap H) callerA [] s₁ H := ⟨rfl, hM, fun b o e => of_hidT e, Nat.le_of_eq (hidT_size _ _), trivial, fun b hb => absurd (show b ∈ ([] : List Addr) from hb) (by simp), hok, .of_eq hg⟩
  refine codeAny_mono ((F _ hKb (nsK hns)).run callerA [] s₁ H ⟨[.ref a], []⟩ [.ref a] [.ref a] _ _ hr rfl e0 (hbind s₁ (.ref a)) (.cons rfl .nil) (hsp H ob Hn Ha)) fun r s' h => ?_
  match r, h with
  | .error e, h =>
    obtain ⟨_, _, _, _, _, _, _, _, _, _, _, _, z⟩ := h
    exact z.elim
  | .ok .next, h => exact False.elim h
  | .ok .brk, h => exact False.elim h
  | .ok .cont, h => exact False.elim h
  | .ok (.ret u), h =>
    obtain ⟨v, H', os, bare, un, hok', r', q⟩ := h
    have q' : v = .bl true := q
    subst q'
    obtain rfl : u = Value.bool true := r'
    refine ⟨rfl, OldK.of_keep fun b o e => ?_, os, bare⟩
    by_cases h : b = a
    · subst h
      have z := un.frzs b _ _ Ha
      obtain ⟨e1, _⟩ := hok b _ Ha
      obtain ⟨e2, _⟩ := hok' b _ z
      rw [e] at e1
      cases e1
      exact e2
    · exact un.keep b o e (Hn b h) (by intro z; exact absurd (show b ∈ ([] : List Addr) from z) (by simp)) (by simp)
/-- the end of a law -/
theorem walk_G {l : PySem.W.OpenLaw} {n k : Nat} {q : Program} {loose : List Str} {XP : (Str → Option Value) → Heap → Prop} {YP : World → Heap → Prop} {d : DefRec} {x : Str} (hn : l.most = some n) (hn2 : n ≤ sizeLine) (hdf : d.params.defaults = []) (hr : Room k callerA)
    (F : ∀ (w : World) (mg : Str → Option Value) (fa : Addr) (h : Heap), YP w h → h.Ns mainGlobals mg → mg d.name = some (.ref fa) →
      ∃ (K : PySem.W.Frag) (fd : FuncData) (sp : Sp), K.In h ∧ (∀ a o, K.lookup a = some o → noL o = true) ∧ (∀ (s : Shared) (u : Value), BindsTo s fd ⟨[u], []⟩ [(x, u)]) ∧
        (∀ (H : Hp) (a : Addr) (ns : List Int) (o : Obj), ns.length ≤ n → (∀ b, b ≠ a → H b = none) → H a = some (.frz o (.lst (ns.map V.int))) → sp [.ref a] H (fun v _ => v = .bl true) fun _ _ _ => False) ∧
        ∀ base : Heap, K.In base → base.Ns mainGlobals mg → FnG l.prog w K mg base k fa fd [x] sp) :
    PySem.W.WalkO q loose XP YP l.row.toRowW d [] (fun f vs => PySem.call f vs) := by
  refine Att.attach_call hn hdf fun w s₀ s₁ mg mb fa o pm cd doc a vs ns G Y ho hd hcd hmg hobj hints hlen hg => ?_
  obtain ⟨K, fd, sp, KX, hnl, hb, hsp, hF⟩ := F w mg fa _ Y G.T.g hmg
  exact law_callG KX hnl G.T.g G.T.b G.T.builtins G.T.nolimit hg hobj hints (Nat.le_trans hlen hn2) hr hF hb fun H ob h1 h2 => hsp H a ns ob hlen h1 h2
end G

set_option maxHeartbeats 400000
/-! G.Facts: what the head finds, as the rules ask it. -/
namespace G
open PySem PySem.Spec PyProof.Rows L2
def oxB (K : PySem.W.Frag) (C : Addr) : Bool := match K.lookup C with
  | some ⟨.type "type", _, .cls cd, sl⟩ => (match cd.mro, sl.toList with
    | .ref C' :: bm, [_, _, _, _, some (.builtin n), _] => C' == C && (n == "ValueError.__new__" && (!cd.hasDel && (cd.hasDict && PySem.HandSPX.refsVE bm)))
    | _, _ => false)
  | _ => false
theorem oxB_ok {K : PySem.W.Frag} {C : Addr} (q : oxB K C = true) : ∃ nm qn N bs bm sn sub ab col dd k0 k1 k2 k3 k5, K.lookup C = some (excClassObj nm qn C N bs bm true sn sub ab col dd k0 k1 k2 k3 k5 "ValueError.__new__") ∧ PySem.HandSPX.refsVE bm = true := by
  unfold oxB at q
  split at q
  · rename_i dd cd sl ho
    split at q
    · rename_i C' bm k0 k1 k2 k3 n k5 hm hs
      simp only [Bool.and_eq_true, beq_iff_eq, Bool.not_eq_true'] at q
      obtain ⟨rfl, rfl, h1, h2, h3⟩ := q
      obtain ⟨nm, bs, mro, ns, qn, hd, sn, sub, ab, col, del⟩ := cd
      dsimp only at hm h1 h2
      subst hm h1 h2
      obtain ⟨l⟩ := sl
      simp only at hs
      subst hs
      exact ⟨nm, qn, ns, bs, bm, sn, sub, ab, col, dd, k0, k1, k2, k3, k5, ho, h3⟩
    · cases q
  · cases q
abbrev eqF (a b : Option (Option Value)) : Bool := decide (a = b)
def clB (K : PySem.W.Frag) (C : Addr) : Bool := oxB K C && (eqF (PySem.W.findIn K (.ref C) "__setattr__") (some (some (.builtin "object.__setattr__"))) && (decide (PySem.W.subIn K (.ref C) (.type "BaseException") = some true) && (decide (PySem.W.typeIn K (.ref C) = some (.type "type")) && (PySem.W.keepIn K (.ref C) &&
  (eqF (PySem.W.findIn K (.ref C) "__getattribute__") (some (some (.builtin "BaseException.__getattribute__"))) && (eqF (PySem.W.findIn K (.ref C) "__getattr__") (some none) && (PySem.W.hasDictIn K C && (eqF (PySem.W.findIn K (.ref C) "__class__") (some (some (.builtin "object.__class__"))) &&
  (eqF (PySem.W.specialIn K (.builtin "object.__class__") "__get__") (some (some (.builtin "getset_descriptor.__get__"))) && (decide (PySem.W.takesIn K (.builtin "object.__class__") = some true) && decide (PySem.W.mroIn K C (.type "object") = some true)))))))))))
theorem clB_ok {K : PySem.W.Frag} {C : Addr} (q : clB K C = true) : OexC K C ∧ ExcC K C := by
  unfold clB at q
  simp only [Bool.and_eq_true, decide_eq_true_eq] at q
  obtain ⟨h1, h2, h3, h4, h5, h6, h7, h8, h9, h10, h11, h12⟩ := q
  exact ⟨⟨oxB_ok h1, h2, h3, h4, h5⟩, ⟨h6, h7, h3, h8, h9, h10, h11, h12⟩⟩
/-- the classes of errors: name, fields, the classes above (itself first) -/
abbrev ClsT := List (Str × List Str × List Nat)
def ClsT.nm (t : ClsT) (c : Nat) : Str := ((t[c]?).map (·.1)).getD ""
def ClsT.cf (t : ClsT) (c : Nat) : List Str := ((t[c]?).map (·.2.1)).getD []
def ClsT.sub (t : ClsT) (c : Nat) : List Nat := ((t[c]?).map (·.2.2)).getD []
def ClsT.ca (t : ClsT) (K : PySem.W.Frag) (c : Nat) : Addr := He.ga K (t.nm c)
def xtB (t : ClsT) (K : PySem.W.Frag) : Bool := (List.range t.length).all fun c => clB K (t.ca K c) && ((t.cf c).all (fun f => eqF (PySem.W.findIn K (.ref (t.ca K c)) f) (some none)) && (decide (PySem.W.kitOne K (.ref (t.ca K c)) (.type "ValueError") = some true) &&
  (List.range t.length).all fun d => decide (PySem.W.kitOne K (.ref (t.ca K c)) (.ref (t.ca K d)) = some ((t.sub c).contains d)) && decide (PySem.W.exmOne K (.ref (t.ca K c)) (.ref (t.ca K d)) = some ((t.sub c).contains d))))
theorem sub_lt {t : ClsT} {c : Nat} (h : (t.sub c).isEmpty = false) : c ∈ List.range t.length := by
  rw [List.mem_range]
  unfold ClsT.sub at h
  cases e : t[c]? with
  | none => rw [e] at h; cases h
  | some p => exact (List.getElem?_eq_some_iff.mp e).1
theorem xtB_ok {t : ClsT} {K : PySem.W.Frag} (h : xtB t K = true) : XT K (t.ca K) t.cf t.sub := by
  have h0 : ∀ c, (t.sub c).isEmpty = false → _ := fun c hc => List.all_eq_true.mp h c (sub_lt hc)
  simp only [Bool.and_eq_true, decide_eq_true_eq, List.all_eq_true] at h0
  exact ⟨fun c hc => (clB_ok (h0 c hc).1).1, fun c hc => (clB_ok (h0 c hc).1).2, fun c f hc hf => (h0 c hc).2.1 f hf, fun c d hc hd => ((h0 c hc).2.2.2 d (sub_lt hd)).1, fun c hc => (h0 c hc).2.2.1, fun c d hc hd => ((h0 c hc).2.2.2 d (sub_lt hd)).2⟩
/-- a class's own __init__ -/
def inB (K : PySem.W.Frag) (x : Str) : Bool := eqF (PySem.W.findIn K (.ref (He.ga K x)) "__init__") (some (some (.ref (He.ma K (He.ga K x) "__init__")))) && decide (PySem.W.typeIn K (.ref (He.ma K (He.ga K x) "__init__")) = some (.type "function"))
theorem inB_ok {K : PySem.W.Frag} {x : Str} (h : inB K x = true) : PySem.W.findIn K (.ref (He.ga K x)) "__init__" = some (some (.ref (He.ma K (He.ga K x) "__init__"))) ∧ PySem.W.typeIn K (.ref (He.ma K (He.ga K x) "__init__")) = some (.type "function") := by
  unfold inB at h
  simp only [Bool.and_eq_true, decide_eq_true_eq] at h
  exact h
/-- the base's -/
def baB (K : PySem.W.Frag) (C : Addr) : Bool := eqF (PySem.W.specialIn K (.ref C) "__getattribute__") (some (some (.builtin "type.__getattribute__"))) && (PySem.W.readsIn K C (.type "type") && (match PySem.W.findCls K (.ref C) (.type "type") "__init__" with
  | some (.val (.builtin n)) => n == "ValueError.__init__"
  | _ => false))
theorem baB_ok {K : PySem.W.Frag} {C : Addr} (h : baB K C = true) : BaseI K C := by
  unfold baB at h
  simp only [Bool.and_eq_true, decide_eq_true_eq] at h
  obtain ⟨h1, h2, h3⟩ := h
  refine ⟨h1, h2, ?_⟩
  split at h3
  · rename_i n e
    rw [e, beq_iff_eq.mp h3]
  · cases h3
/-- the world of a law -/
structure OkR (ca : Nat → Addr) (cf : Nat → List Str) (tl : Nat) (R : Rn) : Prop where
  ca : R.ca = ca
  cf : R.cf = cf
  tl : R.tl = tl
theorem OkR.xt {K : PySem.W.Frag} {ca : Nat → Addr} {cf : Nat → List Str} {tl : Nat} {R : Rn} {sub : Nat → List Nat} (h : OkR ca cf tl R) (T : XT K ca cf sub) : XT K R.ca R.cf sub := by
  rw [h.ca, h.cf]
  exact T
/-- a def of the text -/
structure FE (K : PySem.W.Frag) (mg : Str → Option Value) (x : Str) (st : Stmt) (ps : List Str) (f : Addr) (fd : FuncData) : Prop where
  fu : Fun K x x st f fd
  m : mg x = some (.ref f)
  b : L2.Binds K fd ps []
/-- an error's __init__ -/
structure FI (K : PySem.W.Frag) (mg : Str → Option Value) (x : Str) (st : Stmt) (ps : List Str) (C fI : Addr) (fd : FuncData) : Prop where
  fu : ∃ q, Fun K "__init__" q st fI fd
  m : mg x = some (.ref C)
  b : L2.Binds K fd ps []
  iC : PySem.W.findIn K (.ref C) "__init__" = some (some (.ref fI))
  tI : PySem.W.typeIn K (.ref fI) = some (.type "function")
def clsM (s : Stmt) (j : Nat) : Stmt := match s with
  | .ClassDef _ _ _ b _ _ _ _ _ _ _ => b.getD j (.Pass ⟨0, 0, 0, 0⟩)
  | _ => .Pass ⟨0, 0, 0, 0⟩
end G
namespace G
open PySem PySem.Spec PyProof.Rows L2
theorem tokB {tbl : List (Nat × Nat)} {t : ClsT} {f : Str} (h : (tbl.all fun p => !(t.sub p.1).isEmpty && (decide (t.cf p.1 = [f]) && decide (p.2 = 0))) = true) : ∀ c i, tbl.lookup c = some i → (t.sub c).isEmpty = false ∧ t.cf c = [f] ∧ i = 0 := fun c i e => by
  have m : (c, i) ∈ tbl := by
    clear h
    induction tbl with
    | nil => cases e
    | cons p r ih =>
      obtain ⟨b, j⟩ := p
      rw [List.lookup_cons] at e
      split at e
      · rename_i q
        cases e
        rw [beq_iff_eq.mp q]
        exact List.mem_cons_self
      · exact List.mem_cons_of_mem _ (ih e)
  have := List.all_eq_true.mp h _ m
  simp only [Bool.and_eq_true, Bool.not_eq_true', decide_eq_true_eq] at this
  exact this
section
variable {g : Cg} {X : Cx}
/-- x = e, in a suite too -/
theorem js_asgN {x : Str} {i : Nat} {a : Expr} {y : E} {p pos : Pos} (nd : X.N.Nodup) (ha : JE g X a y) (hi : X.N[i]? = some x := by rfl) (hx : Loc X.env.scope x := by first | exact Or.inl rfl | exact Or.inr rfl) (hs : swapsWith a (some (.Name x p)) pos.line X.env = pure false := by rfl)
    (hf : X.fn x = true ∨ X.env.scope.names.lookup x = some .local := by first | exact .inl rfl | exact .inr rfl) : JS g X (.Assign [.Name x p] a pos) (.asg i y) := ⟨(ps_set nd hi hx ha.val hs hf).imp fun D σ H z => by
  obtain ⟨e, Ls, F, G, h⟩ := z
  refine tV_then G h (fun _ _ z => err_S z) no_S fun r e' v H' Ls' Lt hr s g rp => ?_
  obtain ⟨hl, h2⟩ := setE_all (P := fun r => (mk (fun _ => pu .nx) r).All (PostS _ _ _ _ _ D)) (all_mb.mp hr) no_S
  obtain ⟨g', s'⟩ := g.put rp hl
  exact h2 _ H' _ (s.trans s' fun a z => z) g'⟩
end
end G
namespace G
open PySem PySem.Spec PyProof.Rows L2
theorem Cok.tr {X : Cx} {pn : List (Addr × Obj)} {xe : Value → Shared → Prop} (C : Cok X) (po : PassesOwn (model X.prog X.w) X.A X.env xe) : Cok (X.tr pn xe) := ⟨C.calm, C.un, C.gd, C.nd, po⟩
end G

set_option maxHeartbeats 400000
/-! G.Law: a law's def: the source of draws is made, then the rest. -/
namespace G
open PySem PySem.Spec PyProof.Rows L2
section
variable {g : Cg} {X : Cx} {R : Rn} {W : WD} {σ : St} {e : Env} {H : Hp} {Ls : Nat → List Addr} {F : List Addr} {sub : Nat → List Nat}
theorem pe_callG {k : Nat} {f : Addr} {fd : FuncData} {ps : List Str} {sp : Sp} {x : Str} {p pos : Pos} {a : Expr} {as : List Expr} {ta : TA} {W : WX} (C : Cok X) (FG : FnG X.prog X.w X.K X.mg X.base k f fd ps sp) (tk : Takes X W) (hr : Room k X.A) (hg : Gl X x) (hm : X.mg x = some (.ref f)) (hk : PySem.W.keepIn X.K (.ref f) = true) (hb : L2.Binds X.K fd ps [])
    (ha : PA X (a :: as) ta) (hdb : (x == ("__debug__" : Str)) = false := by decide) (z : Pl1 X pos a as := by exact {}) : PE X (.Call (.Name x p) (a :: as) [] pos) (tCallS sp (WE W) ta) :=
  ⟨fun pins s σ H Q I h => wpAny_Call_Name_kw (ld_glob I hg hm (PySem.W.callWith_K (h₀ := X.base) I.ok.mod.kin hk (thn (ha.run pos pins s σ H _ I h) fun us s1 ⟨vs, H1, I1, r, q⟩ => ⟨I1.kIn, run_g C FG hr hb (passAt tk σ) I1 r q⟩) z.he z.hpl) hdb)⟩
/-- what a law's begin gives -/
structure BeginOk (tl : Nat) (Fb : Fn) (ns : List Int) : Prop where
  run : (Fb [.scr ns]).All fun r => ∃ (cs : List Int) (i m : Int) (ts : List Int), r = .ok true (.lst (.lst (cs.map .int) :: .int i :: .int m :: ts.map .int)) ∧ 0 ≤ i ∧ 0 ≤ m ∧ m < 2147483648 ∧ cs ≠ [] ∧ cs.length ≤ 63 ∧ ts.length = tl
/-- a list of ints in the heap -/
theorem Reps.ints_eq {B : Addr → Prop} : ∀ {cs : List Int} {xs : List V}, Reps R H B 0 (cs.map .int) xs [] → xs = cs.map V.int
  | [], xs, h => by simp only [List.map_nil, Reps] at h; exact h.1
  | i :: cs, xs, h => by
    obtain ⟨v, vs, rfl, r1, r2⟩ := Reps.uncons h
    rw [r1.int, Reps.ints_eq r2]
    rfl
/-- the law says True -/
structure SaysT (m : M Fl) (N : Nat) (ns : List Int) : Prop where
  run : (m (some (0, .scr ns) :: some (0, .rnd) :: List.replicate N none)).All fun r => ∃ n e, r = .ok (.rt n (.bl true)) e
/-- draw = begin(script); the rest -/
def tLaw (tl : Nat) (ca : Nat → Addr) (cf : Nat → List Str) (Fb : Fn) (m : M Fl) : TS := fun D σ H => ∃ (a : Addr) (ns : List Int) (o : Obj) (N : Nat), σ = some (.ref a) :: none :: List.replicate N none ∧ ns.length ≤ 63 ∧ (∀ b, b ≠ a → H b = none) ∧ H a = some (.frz o (.lst (ns.map V.int))) ∧ BeginOk tl Fb ns ∧ SaysT m N ns ∧ ∀ H', D.rt (.bl true) H'
theorem law_run {tl : Nat} {ca : Nat → Addr} {cf : Nat → List Str} {w : World} {Fb : Fn} {m : M Fl} {D : Ends} {W : WD} {Wx : WX} (h : tLaw tl ca cf Fb m D σ H) :
    tSeq (tAsg (tCallS (fsp (OkR ca cf tl) 1 Fb) (WE Wx) (tCons (tVar 0) tNil)) (gName 1)) (fun D σ H => ∃ R, OkR ca cf tl R ∧ tS R W m D σ H) D σ H := by
  obtain ⟨a, ns, o, N, rfl, hl, hn, ha, hB, hM, hD⟩ := h
  refine ⟨_, rfl, ⟨w, none, ca, cf, tl⟩, ⟨rfl, rfl, rfl⟩, [.scr ns], [], ?_, ?_, rfl, ?_⟩
  · have nr : ∀ b, ¬ RnA (⟨w, none, ca, cf, tl⟩ : Rn) b := fun b ⟨r, q, _⟩ => by cases q
    exact ⟨rfl, (fun i n d h => by simp at h), fun i => List.nodup_nil, (fun _ _ _ a ha => nomatch ha), (fun i a ha => nomatch ha), List.nodup_nil, fun b hb => by
      rcases hb with z | ⟨i, z⟩ | z
      · cases z
      · cases z
      · exact absurd z (nr b), trivial, fun b hb => absurd hb (nr b)⟩
  · simp only [Reps, Rep]
    refine ⟨_, [], [], [], rfl, rfl, ⟨rfl, a, rfl, .inr ⟨o, ha⟩, ?_⟩, rfl, rfl⟩
    rintro (z | ⟨i, z⟩ | ⟨r, q, _⟩)
    · cases z
    · cases z
    · cases q
  · refine hB.run.mono fun r ⟨cs, i, mm, ts, hr, b1, b2, b3, b4, b5, b6⟩ => ?_
    subst hr
    intro v H1 Lt s g rp
    simp only [top, if_true, Rep] at rp
    obtain ⟨p, xs, L', rfl, e1, rfl, rs⟩ := rp
    have z := Reps.zero _ _ _ rs
    subst z
    obtain ⟨v1, vs1, rfl, r1, rs⟩ := Reps.uncons rs
    obtain ⟨v2, vs2, rfl, r2, rs⟩ := Reps.uncons rs
    obtain ⟨v3, vs3, rfl, r3, rs⟩ := Reps.uncons rs
    have e4 := Reps.ints_eq rs
    subst e4
    simp only [Rep] at r1
    obtain ⟨b, ys, rfl, e2, nb, _, r1⟩ := r1
    have e5 := Reps.ints_eq r1
    subst e5
    have i2 := r2.int
    have i3 := r3.int
    subst i2 i3
    have pB : Bn (⟨w, none, ca, cf, tl⟩ : Rn) nL ([p] ++ []) p := .inl (by simp)
    have hp : H p = none := by
      rcases s.bn p pB with z | z
      · rcases z with z | ⟨i, z⟩ | ⟨r, q, _⟩
        · cases z
        · cases z
        · cases q
      · exact z
    have na : a ≠ p := fun z => by rw [← z, ha] at hp; cases hp
    have ha1 : H1 a = some (.frz o (.lst (ns.map V.int))) := s.ext a _ ha (by
      rintro (z | ⟨i, z⟩ | ⟨r, q, _⟩)
      · cases z
      · cases z
      · cases q)
    have nab : a ≠ b := fun z => by rw [← z, ha1] at e2; cases e2
    have npb : p ≠ b := fun z => nb (by rw [← z]; exact pB)
    refine ⟨⟨w, some (p, b), ca, cf, tl⟩, ⟨rfl, rfl, rfl⟩, some (0, .scr ns) :: some (0, .rnd) :: List.replicate N none, nL, [], ?_, hM.run.mono fun r hr => ?_⟩
    · have rb : ∀ c, Bn (⟨w, some (p, b), ca, cf, tl⟩ : Rn) nL [] c ↔ (c = p ∨ c = b) := fun c => by
        constructor
        · rintro (z | ⟨i, z⟩ | ⟨r, q, z⟩)
          · cases z
          · cases z
          · cases q
            exact z
        · exact fun z => .inr (.inr ⟨(p, b), rfl, z⟩)
      refine ⟨by simp, fun i n d hi => ?_, fun i => List.nodup_nil, (fun _ _ _ a ha => nomatch ha), (fun i a ha => nomatch ha), List.nodup_nil, fun c hc => ?_, ?_, fun c hc => ⟨fun z => (nomatch z), fun i z => (nomatch z)⟩⟩
      · match i, hi with
        | 0, hi =>
          cases hi
          refine ⟨.ref a, rfl, ?_⟩
          simp only [Rep]
          exact ⟨rfl, a, rfl, .inr ⟨o, ha1⟩, fun z => ((rb a).mp z).elim na nab⟩
        | 1, hi =>
          cases hi
          refine ⟨.ref p, rfl, ?_⟩
          simp only [Rep]
          exact ⟨rfl, (p, b), rfl, rfl⟩
        | i + 2, hi =>
          rw [List.getElem?_cons_succ, List.getElem?_cons_succ, List.getElem?_replicate] at hi
          split at hi <;> cases hi
      · rcases (rb c).mp hc with rfl | rfl
        · exact ⟨_, e1⟩
        · exact ⟨_, e2⟩
      · exact ⟨i, mm, cs, ts, npb, e1, e2, b1, b2, b3, b4, b5, b6⟩
    · obtain ⟨n, e', rfl⟩ := hr
      intro v σ' H' Ls' Lt _ _ rp
      rw [rp.bl]
      exact hD H'
end
end G

set_option maxHeartbeats 400000
/-! G.Plain: what a piece of the language comes to, whatever is drawn. -/
namespace G
open PySem
section
variable {α β : Type} {e : Env} {Φ : α → Env → Prop} {Ψ : D → Env → Prop} {sub : Nat → List Nat} {F : Nat → Fn}
def pst (Φ : α → Env → Prop) (Ψ : D → Env → Prop) : Rs α → Prop
  | .ok a e => Φ a e
  | .err x e => Ψ x e
  | .no => False
/-- m at e comes to Φ, or to an error of Ψ -/
structure wp (m : M α) (e : Env) (Φ : α → Env → Prop) (Ψ : D → Env → Prop) : Prop where
  run : (m e).All (pst Φ Ψ)
theorem wpi {m : M α} : wp m e Φ Ψ ↔ (m e).All (pst Φ Ψ) := ⟨fun h => h.run, fun h => ⟨h⟩⟩
theorem wp_eq {m m' : M α} (h : m = m') : wp m e Φ Ψ ↔ wp m' e Φ Ψ := by rw [h]
theorem wp_mono {m : M α} {Φ' : α → Env → Prop} {Ψ' : D → Env → Prop} (h : wp m e Φ Ψ) (f : ∀ a e, Φ a e → Φ' a e) (g : ∀ x e, Ψ x e → Ψ' x e) : wp m e Φ' Ψ' :=
  ⟨Tr.All.mono h.run fun r z => match r, z with
    | .ok a e, z => f a e z
    | .err x e, z => g x e z⟩
@[simp ↓] theorem wp_mb {m : M α} {f : α → M β} {Φ : β → Env → Prop} : wp (mb m f) e Φ Ψ ↔ wp m e (fun a e' => wp (f a) e' Φ Ψ) Ψ := by
  rw [wpi, wpi]
  unfold mb
  rw [Tr.all_bind]
  constructor
  · intro h
    refine h.mono fun r z => ?_
    match r, z with
    | .ok a e, z => exact ⟨z⟩
    | .err x e, z => exact z
  · intro h
    refine h.mono fun r z => ?_
    match r, z with
    | .ok a e, z => exact wp.run z
    | .err x e, z => exact z
@[simp ↓] theorem wp_pu {a : α} : wp (pu a) e Φ Ψ ↔ Φ a e := wpi
@[simp ↓] theorem wp_no : wp (no : M α) e Φ Ψ ↔ False := wpi
@[simp ↓] theorem wp_rz {x : D} : wp (rz x : M α) e Φ Ψ ↔ Ψ x e := wpi
theorem wp_some {a : α} : wp (op (some a)) e Φ Ψ ↔ Φ a e := wpi
theorem wp_none : wp (op (none : Option α)) e Φ Ψ ↔ False := wpi
@[simp ↓] theorem wp_op {o : Option α} : wp (op o) e Φ Ψ ↔ ∃ a, o = some a ∧ Φ a e := by
  cases o with
  | none => simp [wp_none]
  | some a => simp [wp_some]
@[simp ↓] theorem wp_tst {b : Bool} {m : M α} : wp (tst b m) e Φ Ψ ↔ b = true ∧ wp m e Φ Ψ := by
  unfold tst
  split
  · rename_i h; simp [h]
  · rename_i h; simp [h, wp_no]
theorem wp_getE {i : Nat} {Φ : Nat × D → Env → Prop} {r : Nat × D} (h : e[i]? = some (some r)) : wp (getE i) e Φ Ψ ↔ Φ r e := by
  rw [wpi]
  unfold getE
  rw [h]
  exact Iff.rfl
theorem wp_setE {i : Nat} {r : Nat × D} {Φ : Unit → Env → Prop} (h : i < e.length) : wp (setE i r) e Φ Ψ ↔ Φ () (e.set i (some r)) := by
  rw [wpi]
  unfold setE
  rw [if_pos h]
  exact Iff.rfl
theorem wp_frzE {i : Nat} {r : Nat × D} {Φ : Nat × D → Env → Prop} (h : e[i]? = some (some r)) : wp (frzE i) e Φ Ψ ↔ Φ (0, r.2) (e.set i (some (0, r.2))) := by
  unfold frzE
  rw [wp_mb, wp_getE h, wp_mb, wp_setE (List.getElem?_eq_some_iff.mp h).1, wp_pu]
@[simp ↓] theorem wp_ltr {t : Tr α} : wp (ltr t) e Φ Ψ ↔ t.All fun a => Φ a e := by
  rw [wpi]
  unfold ltr
  rw [Tr.all_bind]
  exact Iff.rfl
/-- a call's end -/
def pstF (Φ : Bool → D → Prop) (Ψ : D → Prop) : FO → Prop
  | .ok fr d => Φ fr d
  | .err x => Ψ x
  | .no => False
structure wpF (t : Tr FO) (Φ : Bool → D → Prop) (Ψ : D → Prop) : Prop where
  run : t.All (pstF Φ Ψ)
@[simp ↓] theorem wp_call {j : Nat} {ps : List Pl} {ord : List Nat} {Φ : Nat × D → Env → Prop} : wp (callE F j ps ord) e Φ Ψ ↔ wp (vlPs ps) e (fun l e' => (l.length == ord.length) = true ∧ wpF (F j (permD l ord)) (fun fr d => Φ (if fr = true then top d else 0, d) e') fun x => Ψ x e') Ψ := by
  unfold callE
  rw [wp_mb]
  constructor
  · intro h
    refine wp_mono h (fun l e' z => ?_) fun _ _ z => z
    obtain ⟨h1, z⟩ := wp_tst.mp z
    rw [wp_mb, wp_ltr] at z
    exact ⟨h1, ⟨z.mono fun r z => match r, z with
      | .ok fr d, z => wp_pu.mp z
      | .err x, z => wp_rz.mp z
      | .no, z => (wp_no.mp z).elim⟩⟩
  · intro h
    refine wp_mono h (fun l e' z => ?_) fun _ _ z => z
    refine wp_tst.mpr ⟨z.1, ?_⟩
    rw [wp_mb, wp_ltr]
    exact z.2.run.mono fun r z => match r, z with
      | .ok fr d, z => wp_pu.mpr z
      | .err x, z => wp_rz.mpr z
theorem wpF_all {t : Tr FO} {Φ : Bool → D → Prop} {Ψ : D → Prop} {P : FO → Prop} (h : wpF t Φ Ψ) (f : ∀ fr d, Φ fr d → P (.ok fr d)) (g : ∀ x, Ψ x → P (.err x)) : t.All P := Tr.All.mono h.run fun r z => match r, z with
  | .ok fr d, z => f fr d z
  | .err x, z => g x z
theorem wpF_mono {t : Tr FO} {Φ Φ' : Bool → D → Prop} {Ψ Ψ' : D → Prop} (h : wpF t Φ Ψ) (f : ∀ fr d, Φ fr d → Φ' fr d) (g : ∀ x, Ψ x → Ψ' x) : wpF t Φ' Ψ' := ⟨wpF_all h f g⟩
/-- a def's -/
theorem wpF_fnOf {n : Nat} {body : Ss} {ds : List D} {Φ : Bool → D → Prop} {Ψ : D → Prop} (h : wp (evSs sub F body) (ds.map (fun d => some (0, d)) ++ List.replicate (n - ds.length) none) (fun f _ => match f with
    | .nx => Φ true .non
    | .rt n d => Φ (n == 1 && top d == 1) d
    | _ => False) fun x _ => Ψ x) : wpF (fnOf sub F n body ds) Φ Ψ := by
  refine ⟨?_⟩
  unfold fnOf
  rw [Tr.all_bind]
  refine Tr.All.mono h.run fun r z => ?_
  match r, z with
  | .ok .nx e, z => exact z
  | .ok (.rt n d) e, z => exact z
  | .ok .bk e, z => exact z.elim
  | .ok .ct e, z => exact z.elim
  | .err x e, z => exact z
/-! ### one statement behind another -/
@[simp ↓] theorem wp_cons {s : S} {r : Ss} {Φ : Fl → Env → Prop} : wp (evSs sub F (.cons s r)) e Φ Ψ ↔ wp (evS sub F s) e (fun f e' => match f with | .nx => wp (evSs sub F r) e' Φ Ψ | f => Φ f e') Ψ := by
  show wp (mb (evS sub F s) _) e Φ Ψ ↔ _
  rw [wp_mb]
  constructor
  · intro h
    refine wp_mono h (fun f e' z => ?_) fun _ _ z => z
    cases f <;> first | exact z | exact wp.run z | exact ⟨z⟩
  · intro h
    refine wp_mono h (fun f e' z => ?_) fun _ _ z => z
    cases f <;> first | exact z | exact wp.run z | exact ⟨z⟩
@[simp ↓] theorem wp_nil {Φ : Fl → Env → Prop} : wp (evSs sub F .nil) e Φ Ψ ↔ Φ .nx e := wpi
@[simp ↓] theorem wp_ite {c : E} {a b : Ss} {Φ : Fl → Env → Prop} : wp (evS sub F (.ite c a b)) e Φ Ψ ↔ wp (ev sub F c).test e (fun t e' => if t = true then wp (evSs sub F a) e' Φ Ψ else wp (evSs sub F b) e' Φ Ψ) Ψ := by
  show wp (mb (ev sub F c).test _) e Φ Ψ ↔ _
  rw [wp_mb]
  constructor
  · intro h
    refine wp_mono h (fun t e' z => ?_) fun _ _ z => z
    cases t <;> first | exact z | exact wp.run z | exact ⟨z⟩
  · intro h
    refine wp_mono h (fun t e' z => ?_) fun _ _ z => z
    cases t <;> first | exact z | exact wp.run z | exact ⟨z⟩
/-! ### loops, comprehensions -/
/-- a loop over items, by what holds behind i of them -/
theorem wp_forL {bind : D → M Unit} {body : M Fl} {Φ : Fl → Env → Prop} (I : List D → Env → Prop) : ∀ (xs : List D) (e : Env), I xs e →
    (∀ x r e, I (x :: r) e → wp (bind x) e (fun _ e1 => wp body e1 (fun f e2 => match f with
      | .nx => I r e2
      | .ct => I r e2
      | .bk => Φ .nx e2
      | .rt n d => Φ (.rt n d) e2) Ψ) Ψ) → (∀ e, I [] e → Φ .nx e) → wp (forL bind body xs) e Φ Ψ
  | [], e, h, _, hd => ⟨hd e h⟩
  | x :: r, e, h, hs, hd => by
    show wp (mb (bind x) _) e Φ Ψ
    rw [wp_mb]
    refine wp_mono (hs x r e h) (fun _ e1 z => ?_) fun _ _ z => z
    rw [wp_mb]
    refine wp_mono z (fun f e2 z => ?_) fun _ _ z => z
    match f, z with
    | .nx, z => exact wp_forL I r e2 z hs hd
    | .ct, z => exact wp_forL I r e2 z hs hd
    | .bk, z => exact ⟨z⟩
    | .rt n d, z => exact ⟨z⟩
/-- the same outside of own -/
def Out (own : List Nat) (e e' : Env) : Prop := e'.length = e.length ∧ ∀ i, i ∉ own → e'[i]? = e[i]?
theorem Out.refl {own : List Nat} : Out own e e := ⟨rfl, fun _ _ => rfl⟩
theorem Out.trans {own : List Nat} {e1 e2 : Env} (a : Out own e e1) (b : Out own e1 e2) : Out own e e2 := ⟨b.1.trans a.1, fun i h => (b.2 i h).trans (a.2 i h)⟩
theorem Out.wipe {own : List Nat} : Out own e (wipeE own e) := by
  unfold wipeE
  suffices ∀ (l : List Nat) (e' : Env), (∀ i ∈ l, i ∈ own) → Out own e e' → Out own e (l.foldl (fun e i => e.set i none) e') from this own e (fun _ h => h) .refl
  intro l
  induction l with
  | nil => intro e' _ h; exact h
  | cons a l ih =>
    intro e' hm h
    refine ih _ (fun i hi => hm i (List.mem_cons_of_mem _ hi)) ⟨by simpa using h.1, fun i hi => ?_⟩
    rw [List.getElem?_set_ne fun z => hi (by rw [← z]; exact hm a List.mem_cons_self)]
    exact h.2 i hi
theorem Out.set {own : List Nat} {i : Nat} {x : Option (Nat × D)} {e1 : Env} (h : Out own e e1) (hi : i ∈ own) : Out own e (e1.set i x) :=
  ⟨by simpa using h.1, fun j hj => by rw [List.getElem?_set_ne fun z => hj (by rw [← z]; exact hi)]; exact h.2 j hj⟩
theorem back_out {own : List Nat} {e' : Env} (h : Out own e e') : backE own e e' = e := by
  unfold backE
  suffices ∀ (l : List Nat) (m : List Nat) (e1 : Env), (∀ i, i ∉ l ++ m → True) → e1.length = e.length → (∀ i, i ∉ m → e1[i]? = e[i]?) → m.foldl (fun e2 i => e2.set i ((e[i]?).getD none)) e1 = e from
    this [] own e' (fun _ _ => trivial) h.1 h.2
  intro l m
  induction m with
  | nil =>
    intro e1 _ hl h
    exact List.ext_getElem? fun i => h i (by simp)
  | cons a m ih =>
    intro e1 _ hl h
    refine ih _ (fun _ _ => trivial) (by simpa using hl) fun i hi => ?_
    by_cases z : a = i
    · subst z
      by_cases hlt : a < e1.length
      · rw [List.getElem?_set_self hlt, List.getElem?_eq_getElem (hl ▸ hlt)]
        rfl
      · rw [List.getElem?_eq_none (by simpa using hlt), List.getElem?_eq_none (by omega)]
    · rw [List.getElem?_set_ne z]
      exact h i (by simp only [List.mem_cons, not_or]; exact ⟨fun q => z q.symm, hi⟩)
/-- a comprehension's walk: by what holds behind some items -/
theorem wp_compE {tg own : List Nat} {test : M Bool} {elt : M (Nat × D)} {Φ : List D → Env → Prop} (I : List D → List D → Env → Prop) : ∀ (xs acc : List D) (e : Env), I xs acc e → acc.length + xs.length ≤ sizeLine →
    (∀ x r acc e, I (x :: r) acc e → wp (bindT tg x) (wipeE own e) (fun _ e1 => wp test e1 (fun t e2 => if t = true then wp elt e2 (fun y e3 => I r (acc ++ [y.2]) e3) Ψ else I r acc e2) Ψ) Ψ) → (∀ acc e, I [] acc e → Φ acc e) →
    wp (compE tg own test elt xs acc) e Φ Ψ
  | [], acc, e, h, _, _, hd => ⟨hd acc e h⟩
  | x :: r, acc, e, h, hl, hs, hd => by
    show wp (mb (fun e => .ret (.ok () (wipeE own e))) _) e Φ Ψ
    rw [wp_mb]
    rw [wpi]
    show wp (mb (bindT tg x) _) (wipeE own e) Φ Ψ
    rw [wp_mb]
    refine wp_mono (hs x r acc e h) (fun _ e1 z => ?_) fun _ _ z => z
    rw [wp_mb]
    refine wp_mono z (fun t e2 z => ?_) fun _ _ z => z
    simp only [List.length_cons] at hl
    cases t with
    | true =>
      simp only [if_true] at z ⊢
      rw [wp_mb]
      refine wp_mono z (fun y e3 z => ?_) fun _ _ z => z
      exact wp_tst.mpr ⟨by simp; omega, wp_compE I r _ e3 z (by simp; omega) hs hd⟩
    | false => exact wp_compE I r acc e2 z (by omega) hs hd
theorem wp_blk {own : List Nat} {m : M α} (hi : idle own e = true) (h : wp m e (fun a e' => Out own e e' ∧ Φ a e) fun _ _ => False) : wp (blkE own m) e Φ Ψ := by
  refine ⟨?_⟩
  unfold blkE
  rw [if_pos hi, Tr.all_bind]
  refine Tr.All.mono h.run fun r z => ?_
  match r, z with
  | .ok a e', z =>
    show Φ a (backE own e e')
    rw [back_out z.1]
    exact z.2
  | .err x e', z => exact z.elim
theorem wipe_len {own : List Nat} : (wipeE own e).length = e.length := Out.wipe.1
theorem wipe_out {own : List Nat} {i : Nat} (h : i ∉ own) : (wipeE own e)[i]? = e[i]? := Out.wipe.2 i h
theorem wipe_in {own : List Nat} {i : Nat} (h : i ∈ own) (hl : i < e.length) : (wipeE own e)[i]? = some none := by
  unfold wipeE
  suffices ∀ (l : List Nat) (e' : Env), e'.length = e.length → (i ∈ l ∨ e'[i]? = some none) → (l.foldl (fun e i => e.set i none) e')[i]? = some none from this own e rfl (.inl h)
  intro l
  induction l with
  | nil => intro e' _ z; exact z.elim (fun z => nomatch z) id
  | cons a l ih =>
    intro e' he z
    refine ih _ (by simpa using he) ?_
    by_cases q : a = i
    · exact .inr (by rw [q, List.getElem?_set_self (by omega)])
    · rcases z with z | z
      · exact .inl ((List.mem_cons.mp z).resolve_left fun y => q y.symm)
      · exact .inr (by rw [List.getElem?_set_ne q]; exact z)
theorem wipe_same {own : List Nat} {e' : Env} : Out own e e' ↔ wipeE own e' = wipeE own e := by
  constructor
  · intro h
    refine List.ext_getElem? fun i => ?_
    by_cases hi : i ∈ own
    · by_cases hl : i < e.length
      · rw [wipe_in hi hl, wipe_in hi (by rw [h.1]; exact hl)]
      · rw [List.getElem?_eq_none (by rw [wipe_len, h.1]; omega), List.getElem?_eq_none (by rw [wipe_len]; omega)]
    · rw [wipe_out hi, wipe_out hi, h.2 i hi]
  · intro h
    refine ⟨by rw [← wipe_len (own := own), h, wipe_len], fun i hi => ?_⟩
    rw [← wipe_out hi, h, wipe_out hi]
/-- a comprehension that draws nothing -/
theorem wp_lc {tg own : List Nat} {test : M Bool} {elt : M (Nat × D)} {xs : List D} {Φ : List D → Env → Prop} (keep : D → Bool) (f : D → D) (hi : idle own e = true) (hl : xs.length ≤ sizeLine)
    (hs : ∀ x ∈ xs, wp (bindT tg x) (wipeE own e) (fun _ e2 => wp test e2 (fun t e3 => t = keep x ∧ if t = true then wp elt e3 (fun y e4 => y.2 = f x ∧ wipeE own e4 = wipeE own e) (fun _ _ => False) else wipeE own e3 = wipeE own e) fun _ _ => False) fun _ _ => False)
    (h : Φ ((xs.filter keep).map f) e) : wp (blkE own (compE tg own test elt xs [])) e Φ Ψ := by
  refine wp_blk hi (wp_compE (fun r acc e' => wipeE own e' = wipeE own e ∧ (∀ x ∈ r, x ∈ xs) ∧ acc ++ (r.filter keep).map f = (xs.filter keep).map f) xs [] e ⟨rfl, fun _ h => h, rfl⟩ (by simpa using hl) (fun x r acc e' ⟨h1, h2, h3⟩ => ?_) fun acc e' ⟨h1, h2, h3⟩ => ⟨wipe_same.mpr h1, ?_⟩)
  · rw [h1]
    refine wp_mono (hs x (h2 x List.mem_cons_self)) (fun _ e2 z => wp_mono z (fun t e3 ⟨z1, z⟩ => ?_) fun _ _ z => z.elim) fun _ _ z => z.elim
    have h2' : ∀ y ∈ r, y ∈ xs := fun y hy => h2 y (List.mem_cons_of_mem _ hy)
    cases t with
    | true =>
      refine wp_mono z (fun y e4 ⟨z2, z3⟩ => ⟨z3, h2', ?_⟩) fun _ _ z => z.elim
      rw [List.filter_cons, if_pos z1.symm, List.map_cons] at h3
      rw [z2, List.append_assoc]
      exact h3
    | false =>
      refine ⟨z, h2', ?_⟩
      rw [List.filter_cons, if_neg (by rw [← z1]; exact Bool.false_ne_true)] at h3
      exact h3
  · have : acc = (xs.filter keep).map f := by simpa using h3
    rw [this]
    exact h
/-- .. without a test -/
theorem wp_lcA {tg own : List Nat} {elt : M (Nat × D)} {xs : List D} {Φ : List D → Env → Prop} (f : D → D) (hi : idle own e = true) (hl : xs.length ≤ sizeLine)
    (hs : ∀ x ∈ xs, wp (bindT tg x) (wipeE own e) (fun _ e2 => wp elt e2 (fun y e4 => y.2 = f x ∧ wipeE own e4 = wipeE own e) (fun _ _ => False)) fun _ _ => False)
    (h : Φ (xs.map f) e) : wp (blkE own (compE tg own (pu true) elt xs [])) e Φ Ψ := by
  refine wp_lc (fun _ => true) f hi hl (fun x hx => wp_mono (hs x hx) (fun _ e2 z => ⟨rfl, z⟩) fun _ _ z => z) ?_
  have : xs.filter (fun _ => true) = xs := List.filter_eq_self.mpr fun _ _ => rfl
  rw [this]
  exact h
/-- a call's end that is told -/
theorem wpF_det {t : Tr FO} {fr : Bool} {d : D} {Φ : Bool → D → Prop} {Ψ : D → Prop} (h : t = .ret (.ok fr d)) (k : Φ fr d) : wpF t Φ Ψ := by rw [h]; exact ⟨k⟩
theorem wp_det {m : M α} {a : α} {e' : Env} (h : m e = .ret (.ok a e')) (k : Φ a e') : wp m e Φ Ψ := ⟨by rw [h]; exact k⟩
/-- two statements that are reckoned -/
theorem wp_two {s t : S} {r : Ss} {e' : Env} {Φ : Fl → Env → Prop} (h : evSs sub F (.cons s (.cons t .nil)) e = .ret (.ok .nx e')) (k : wp (evSs sub F r) e' Φ Ψ) : wp (evSs sub F (.cons s (.cons t r))) e Φ Ψ := by
  have h2 : wp (evSs sub F (.cons s (.cons t .nil))) e (fun f e2 => f = .nx ∧ e2 = e') Ψ := ⟨by rw [h]; exact ⟨rfl, rfl⟩⟩
  rw [wp_cons] at h2 ⊢
  refine wp_mono h2 (fun f e1 z => ?_) fun _ _ z => z
  cases f with
  | nx =>
    simp only at z ⊢
    rw [wp_cons] at z ⊢
    refine wp_mono z (fun f e3 z => ?_) fun _ _ z => z
    cases f with
    | nx =>
      obtain ⟨_, rfl⟩ := wp_nil.mp z
      exact k
    | _ => cases z.1
  | _ => cases z.1
/-! ### simp's view -/
def look (o : Option (Option (Nat × D))) (Φ : Nat × D → Prop) : Prop := match o with
  | some (some r) => Φ r
  | _ => False
@[simp] theorem look_some {r : Nat × D} {Φ : Nat × D → Prop} : look (some (some r)) Φ ↔ Φ r := Iff.rfl
@[simp ↓] theorem wps_getE {i : Nat} {Φ : Nat × D → Env → Prop} : wp (getE i) e Φ Ψ ↔ look e[i]? fun r => Φ r e := by
  rw [wpi]
  unfold getE look
  cases e[i]? with
  | none => exact Iff.rfl
  | some o => cases o <;> exact Iff.rfl
@[simp ↓] theorem wps_setE {i : Nat} {r : Nat × D} {Φ : Unit → Env → Prop} : wp (setE i r) e Φ Ψ ↔ i < e.length ∧ Φ () (e.set i (some r)) := by
  rw [wpi]
  unfold setE
  split
  · rename_i h; exact ⟨fun z => ⟨h, z⟩, fun z => z.2⟩
  · rename_i h; exact ⟨fun z => z.elim, fun z => absurd z.1 h⟩
@[simp ↓] theorem wps_frzE {i : Nat} {Φ : Nat × D → Env → Prop} : wp (frzE i) e Φ Ψ ↔ look e[i]? fun r => Φ (0, r.2) (e.set i (some (0, r.2))) := by
  unfold frzE
  rw [wp_mb, wps_getE]
  unfold look
  cases h : e[i]? with
  | none => exact Iff.rfl
  | some o =>
    cases o with
    | none => exact Iff.rfl
    | some r =>
      show wp (mb (setE i (0, r.2)) fun _ => pu (0, r.2)) e Φ Ψ ↔ _
      rw [wp_mb, wp_setE (List.getElem?_eq_some_iff.mp h).1, wp_pu]
variable {x a b c : E} {es : Es} {ps : List Pl} {p : Pl}
@[simp ↓] theorem plOf_v {i : Nat} {m : M (Nat × D)} {Φ : Pl → Env → Prop} : wp (plOf (.v i) m) e Φ Ψ ↔ wp (mb (getE i) fun _ => pu (.v i)) e Φ Ψ := Iff.rfl
@[simp ↓] theorem plOf_c {d : D} {m : M (Nat × D)} {Φ : Pl → Env → Prop} : wp (plOf (.c d) m) e Φ Ψ ↔ wp (mb m fun r => pu (.t r.1 r.2)) e Φ Ψ := Iff.rfl
@[simp ↓] theorem plOf_g {z : Str} {d : D} {m : M (Nat × D)} {Φ : Pl → Env → Prop} : wp (plOf (.g z d) m) e Φ Ψ ↔ wp (mb m fun r => pu (.t r.1 r.2)) e Φ Ψ := Iff.rfl
@[simp ↓] theorem plOf_tup {m : M (Nat × D)} {Φ : Pl → Env → Prop} : wp (plOf (.tup es) m) e Φ Ψ ↔ wp (mb m fun r => pu (.t r.1 r.2)) e Φ Ψ := Iff.rfl
@[simp ↓] theorem plOf_lst {m : M (Nat × D)} {Φ : Pl → Env → Prop} : wp (plOf (.lst es) m) e Φ Ψ ↔ wp (mb m fun r => pu (.t r.1 r.2)) e Φ Ψ := Iff.rfl
@[simp ↓] theorem plOf_b {o : B} {m : M (Nat × D)} {Φ : Pl → Env → Prop} : wp (plOf (.b o es) m) e Φ Ψ ↔ wp (mb m fun r => pu (.t r.1 r.2)) e Φ Ψ := Iff.rfl
@[simp ↓] theorem plOf_not {m : M (Nat × D)} {Φ : Pl → Env → Prop} : wp (plOf (.not a) m) e Φ Ψ ↔ wp (mb m fun r => pu (.t r.1 r.2)) e Φ Ψ := Iff.rfl
@[simp ↓] theorem plOf_and {m : M (Nat × D)} {Φ : Pl → Env → Prop} : wp (plOf (.and a b) m) e Φ Ψ ↔ wp (mb m fun r => pu (.t r.1 r.2)) e Φ Ψ := Iff.rfl
@[simp ↓] theorem plOf_or {m : M (Nat × D)} {Φ : Pl → Env → Prop} : wp (plOf (.or a b) m) e Φ Ψ ↔ wp (mb m fun r => pu (.t r.1 r.2)) e Φ Ψ := Iff.rfl
@[simp ↓] theorem plOf_ite {m : M (Nat × D)} {Φ : Pl → Env → Prop} : wp (plOf (.ite c a b) m) e Φ Ψ ↔ wp (mb m fun r => pu (.t r.1 r.2)) e Φ Ψ := Iff.rfl
@[simp ↓] theorem plOf_ch {o o' : B} {m : M (Nat × D)} {Φ : Pl → Env → Prop} : wp (plOf (.ch o o' a b c) m) e Φ Ψ ↔ wp (mb m fun r => pu (.t r.1 r.2)) e Φ Ψ := Iff.rfl
@[simp ↓] theorem plOf_sl {m : M (Nat × D)} {Φ : Pl → Env → Prop} : wp (plOf (.sl a b c) m) e Φ Ψ ↔ wp (mb m fun r => pu (.t r.1 r.2)) e Φ Ψ := Iff.rfl
@[simp ↓] theorem plOf_rv {m : M (Nat × D)} {Φ : Pl → Env → Prop} : wp (plOf (.rv a) m) e Φ Ψ ↔ wp (mb m fun r => pu (.t r.1 r.2)) e Φ Ψ := Iff.rfl
@[simp ↓] theorem plOf_f {j : Nat} {kw : List Str} {o : List Nat} {m : M (Nat × D)} {Φ : Pl → Env → Prop} : wp (plOf (.f j es kw o) m) e Φ Ψ ↔ wp (mb m fun r => pu (.t r.1 r.2)) e Φ Ψ := Iff.rfl
@[simp ↓] theorem plOf_mu {o : Mu} {i : Nat} {m : M (Nat × D)} {Φ : Pl → Env → Prop} : wp (plOf (.mu o i es) m) e Φ Ψ ↔ wp (mb m fun r => pu (.t r.1 r.2)) e Φ Ψ := Iff.rfl
@[simp ↓] theorem plOf_lc {own : List (Str × Nat)} {tg : List Nat} {it : It} {cs : Es} {m : M (Nat × D)} {Φ : Pl → Env → Prop} : wp (plOf (.lc own tg it es cs x) m) e Φ Ψ ↔ wp (mb m fun r => pu (.t r.1 r.2)) e Φ Ψ := Iff.rfl
@[simp ↓] theorem plOf_dd {m : M (Nat × D)} {Φ : Pl → Env → Prop} : wp (plOf (.dd es) m) e Φ Ψ ↔ wp (mb m fun r => pu (.t r.1 r.2)) e Φ Ψ := Iff.rfl
@[simp ↓] theorem plOf_mk {k : Nat} {m : M (Nat × D)} {Φ : Pl → Env → Prop} : wp (plOf (.mk k es) m) e Φ Ψ ↔ wp (mb m fun r => pu (.t r.1 r.2)) e Φ Ψ := Iff.rfl
@[simp ↓] theorem rdP_t {n : Nat} {d : D} {Φ : Nat × D → Env → Prop} : wp (rdP (.t n d)) e Φ Ψ ↔ wp (pu (n, d)) e Φ Ψ := Iff.rfl
@[simp ↓] theorem rdP_v {i : Nat} {Φ : Nat × D → Env → Prop} : wp (rdP (.v i)) e Φ Ψ ↔ wp (getE i) e Φ Ψ := Iff.rfl
@[simp ↓] theorem vlP_t {n : Nat} {d : D} {Φ : Nat × D → Env → Prop} : wp (vlP (.t n d)) e Φ Ψ ↔ wp (pu (n, d)) e Φ Ψ := Iff.rfl
@[simp ↓] theorem vlP_v {i : Nat} {Φ : Nat × D → Env → Prop} : wp (vlP (.v i)) e Φ Ψ ↔ wp (frzE i) e Φ Ψ := Iff.rfl
@[simp ↓] theorem rdPs_nil {Φ : List (Nat × D) → Env → Prop} : wp (rdPs []) e Φ Ψ ↔ wp (pu []) e Φ Ψ := Iff.rfl
@[simp ↓] theorem rdPs_cons {Φ : List (Nat × D) → Env → Prop} : wp (rdPs (p :: ps)) e Φ Ψ ↔ wp (mb (rdP p) fun a => mb (rdPs ps) fun l => pu (a :: l)) e Φ Ψ := Iff.rfl
@[simp ↓] theorem vlPs_nil {Φ : List (Nat × D) → Env → Prop} : wp (vlPs []) e Φ Ψ ↔ wp (pu []) e Φ Ψ := Iff.rfl
@[simp ↓] theorem vlPs_cons {Φ : List (Nat × D) → Env → Prop} : wp (vlPs (p :: ps)) e Φ Ψ ↔ wp (mb (vlP p) fun a => mb (vlPs ps) fun l => pu (a :: l)) e Φ Ψ := Iff.rfl
@[simp ↓] theorem evPs_nil {Φ : List Pl → Env → Prop} : wp (evPs sub F .nil) e Φ Ψ ↔ wp (pu []) e Φ Ψ := Iff.rfl
@[simp ↓] theorem evPs_cons {r : Es} {Φ : List Pl → Env → Prop} : wp (evPs sub F (.cons x r)) e Φ Ψ ↔ wp (mb (plOf x (ev sub F x).val) fun p => mb (evPs sub F r) fun ps => pu (p :: ps)) e Φ Ψ := Iff.rfl
@[simp ↓] theorem evTs_nil {Φ : Bool → Env → Prop} : wp (evTs sub F .nil) e Φ Ψ ↔ wp (pu true) e Φ Ψ := Iff.rfl
@[simp ↓] theorem wp_evTs {r : Es} {Φ : Bool → Env → Prop} : wp (evTs sub F (.cons x r)) e Φ Ψ ↔ wp (ev sub F x).test e (fun t e' => if t = true then wp (evTs sub F r) e' Φ Ψ else Φ false e') Ψ := by
  show wp (mb (ev sub F x).test _) e Φ Ψ ↔ _
  rw [wp_mb]
  constructor
  · intro h
    refine wp_mono h (fun t e' z => ?_) fun _ _ z => z
    cases t <;> first | exact z | exact wp.run z | exact ⟨z⟩
  · intro h
    refine wp_mono h (fun t e' z => ?_) fun _ _ z => z
    cases t <;> first | exact z | exact wp.run z | exact ⟨z⟩
@[simp ↓] theorem wp_bopE {o : B} {Φ : Nat × D → Env → Prop} : wp (bopE sub o ps) e Φ Ψ ↔ wp (rdPs ps) e (fun l e' => okN l = true ∧ ∃ d, bsem sub o (l.map (·.2)) = some d ∧ Φ (bopN o d, d) e') Ψ := by
  unfold bopE
  simp only [wp_mb, wp_tst, wp_op, wp_pu]
@[simp ↓] theorem wp_truthE {r : Nat × D} {Φ : Bool → Env → Prop} : wp (truthE r) e Φ Ψ ↔ ∃ t, r.2.truth = some t ∧ Φ t e := by
  unfold truthE
  rw [wp_op]
@[simp ↓] theorem val_v {i : Nat} {Φ : Nat × D → Env → Prop} : wp ((ev sub F (.v i)).val) e Φ Ψ ↔ wp (frzE i) e Φ Ψ := Iff.rfl
@[simp ↓] theorem val_c {d : D} {Φ : Nat × D → Env → Prop} : wp ((ev sub F (.c d)).val) e Φ Ψ ↔ wp (pu (1, d)) e Φ Ψ := Iff.rfl
@[simp ↓] theorem val_g {z : Str} {d : D} {Φ : Nat × D → Env → Prop} : wp ((ev sub F (.g z d)).val) e Φ Ψ ↔ wp (pu (1, d)) e Φ Ψ := Iff.rfl
@[simp ↓] theorem val_tup {Φ : Nat × D → Env → Prop} : wp ((ev sub F (.tup es)).val) e Φ Ψ ↔ wp (mb (evPs sub F es) fun ps => mb (vlPs ps) fun l => tst (decide (l.length ≤ 1000)) (pu (0, .tup (l.map (·.2))))) e Φ Ψ := Iff.rfl
@[simp ↓] theorem val_lst {Φ : Nat × D → Env → Prop} : wp ((ev sub F (.lst es)).val) e Φ Ψ ↔ wp (mb (evPs sub F es) fun ps => mb (vlPs ps) fun l => tst (decide (l.length ≤ 1000)) (pu (1, .lst (l.map (·.2))))) e Φ Ψ := Iff.rfl
@[simp ↓] theorem val_b {o : B} {Φ : Nat × D → Env → Prop} : wp ((ev sub F (.b o es)).val) e Φ Ψ ↔ wp (mb (evPs sub F es) fun ps => bopE sub o ps) e Φ Ψ := Iff.rfl
@[simp ↓] theorem val_not {Φ : Nat × D → Env → Prop} : wp ((ev sub F (.not a)).val) e Φ Ψ ↔ wp (mb (plOf a (ev sub F a).val) fun p => mb (rdP p) fun r => mb (truthE r) fun t => pu (1, .bl (!t))) e Φ Ψ := Iff.rfl
@[simp ↓] theorem wp_and {Φ : Nat × D → Env → Prop} : wp (ev sub F (.and a b)).val e Φ Ψ ↔ wp (ev sub F a).val e (fun x e' => ∃ t, x.2.truth = some t ∧ if t = true then wp (ev sub F b).val e' Φ Ψ else Φ x e') Ψ := by
  show wp (mb (ev sub F a).val _) e Φ Ψ ↔ _
  simp only [wp_mb, wp_truthE]
  constructor <;> intro h <;> refine wp_mono h (fun x e' ⟨t, z1, z⟩ => ⟨t, z1, ?_⟩) fun _ _ z => z
  · cases t <;> first | exact z | exact wp.run z | exact ⟨z⟩
  · cases t <;> first | exact z | exact wp.run z | exact ⟨z⟩
@[simp ↓] theorem wp_or {Φ : Nat × D → Env → Prop} : wp (ev sub F (.or a b)).val e Φ Ψ ↔ wp (ev sub F a).val e (fun x e' => ∃ t, x.2.truth = some t ∧ if t = true then Φ x e' else wp (ev sub F b).val e' Φ Ψ) Ψ := by
  show wp (mb (ev sub F a).val _) e Φ Ψ ↔ _
  simp only [wp_mb, wp_truthE]
  constructor <;> intro h <;> refine wp_mono h (fun x e' ⟨t, z1, z⟩ => ⟨t, z1, ?_⟩) fun _ _ z => z
  · cases t <;> first | exact z | exact wp.run z | exact ⟨z⟩
  · cases t <;> first | exact z | exact wp.run z | exact ⟨z⟩
@[simp ↓] theorem wp_itev {Φ : Nat × D → Env → Prop} : wp (ev sub F (.ite c a b)).val e Φ Ψ ↔ wp (ev sub F c).test e (fun t e' => if t = true then wp (ev sub F a).val e' Φ Ψ else wp (ev sub F b).val e' Φ Ψ) Ψ := by
  show wp (mb (ev sub F c).test _) e Φ Ψ ↔ _
  rw [wp_mb]
  constructor <;> intro h <;> refine wp_mono h (fun t e' z => ?_) fun _ _ z => z
  · cases t <;> first | exact z | exact wp.run z | exact ⟨z⟩
  · cases t <;> first | exact z | exact wp.run z | exact ⟨z⟩
@[simp ↓] theorem wp_ch {o o' : B} {Φ : Nat × D → Env → Prop} : wp (ev sub F (.ch o o' a b c)).val e Φ Ψ ↔ wp (plOf a (ev sub F a).val) e (fun x e1 => wp (plOf b (ev sub F b).val) e1 (fun y e2 => wp (bopE sub o [x, y]) e2 (fun r e3 => ∃ t, r.2.truth = some t ∧ if t = true then wp (plOf c (ev sub F c).val) e3 (fun z e4 => wp (bopE sub o' [y, z]) e4 Φ Ψ) Ψ else Φ r e3) Ψ) Ψ) Ψ := by
  show wp (mb (plOf a (ev sub F a).val) _) e Φ Ψ ↔ _
  simp only [wp_mb, wp_truthE]
  constructor <;> intro h <;> refine wp_mono h (fun x e' z => wp_mono z (fun y e2 z => wp_mono z (fun r e3 ⟨t, z1, z⟩ => ⟨t, z1, ?_⟩) fun _ _ z => z) fun _ _ z => z) fun _ _ z => z
  · cases t
    · exact wp.run z
    · exact (wp_mb.mp z)
  · cases t
    · exact ⟨z⟩
    · exact (wp_mb.mpr z)
@[simp ↓] theorem val_f {j : Nat} {kw : List Str} {o : List Nat} {Φ : Nat × D → Env → Prop} : wp ((ev sub F (.f j es kw o)).val) e Φ Ψ ↔ wp (mb (evPs sub F es) fun ps => callE F j ps o) e Φ Ψ := Iff.rfl
@[simp ↓] theorem val_mu {o : Mu} {i : Nat} {Φ : Nat × D → Env → Prop} : wp ((ev sub F (.mu o i es)).val) e Φ Ψ ↔ wp (mb (getE i) fun x0 => tst (isL x0.2) (mb (evPs sub F es) fun ps => mb (vlPs ps) fun l => muE o i (l.map (·.2)))) e Φ Ψ := Iff.rfl
@[simp ↓] theorem val_lc {own : List (Str × Nat)} {tg : List Nat} {it : It} {cs : Es} {Φ : Nat × D → Env → Prop} : wp ((ev sub F (.lc own tg it es cs x)).val) e Φ Ψ ↔ wp (mb (evPs sub F es) fun ps => mb (vlPs ps) fun l => mb (op (isem it (l.map (·.2)))) fun xs => mb (blkE (own.map (·.2)) (compE tg (own.map (·.2)) (evTs sub F cs) (ev sub F x).val xs [])) fun r => pu (1, .lst r)) e Φ Ψ := Iff.rfl
@[simp ↓] theorem val_dd {Φ : Nat × D → Env → Prop} : wp ((ev sub F (.dd es)).val) e Φ Ψ ↔ wp (mb (evPs sub F es) fun ps => mb (vlPs ps) fun l => mb (op (ddS (l.map (·.2)) [])) fun r => pu (1, .dct r)) e Φ Ψ := Iff.rfl
@[simp ↓] theorem val_mk {k : Nat} {Φ : Nat × D → Env → Prop} : wp ((ev sub F (.mk k es)).val) e Φ Ψ ↔ wp (mb (evPs sub F es) fun ps => mb (vlPs ps) fun l => tst (decide (l.length ≤ 1000) && !(sub k).isEmpty) (pu (0, .exn k (l.map (·.2))))) e Φ Ψ := Iff.rfl
@[simp ↓] theorem val_sl {Φ : Nat × D → Env → Prop} : wp ((ev sub F (.sl a b c)).val) e Φ Ψ ↔ wp (mb (plOf a (ev sub F a).val) fun x => mb (plOf b (ev sub F b).val) fun y => mb (rdP y) fun r => tst (isI r.2) (mb (plOf c (ev sub F c).val) fun z => bopE sub (.slc true true) [x, y, z])) e Φ Ψ := Iff.rfl
@[simp ↓] theorem val_rv {Φ : Nat × D → Env → Prop} : wp ((ev sub F (.rv a)).val) e Φ Ψ ↔ wp (mb (plOf a (ev sub F a).val) fun x => bopE sub .rev [x]) e Φ Ψ := Iff.rfl
@[simp ↓] theorem test_v {i : Nat} {Φ : Bool → Env → Prop} : wp ((ev sub F (.v i)).test) e Φ Ψ ↔ wp (mb (plOf (.v i) (ev sub F (.v i)).val) fun p => mb (rdP p) truthE) e Φ Ψ := Iff.rfl
@[simp ↓] theorem test_c {d : D} {Φ : Bool → Env → Prop} : wp ((ev sub F (.c d)).test) e Φ Ψ ↔ wp (mb (plOf (.c d) (ev sub F (.c d)).val) fun p => mb (rdP p) truthE) e Φ Ψ := Iff.rfl
@[simp ↓] theorem test_b {o : B} {Φ : Bool → Env → Prop} : wp ((ev sub F (.b o es)).test) e Φ Ψ ↔ wp (mb (plOf (.b o es) (ev sub F (.b o es)).val) fun p => mb (rdP p) truthE) e Φ Ψ := Iff.rfl
@[simp ↓] theorem test_f {j : Nat} {kw : List Str} {o : List Nat} {Φ : Bool → Env → Prop} : wp ((ev sub F (.f j es kw o)).test) e Φ Ψ ↔ wp (mb (plOf (.f j es kw o) (ev sub F (.f j es kw o)).val) fun p => mb (rdP p) truthE) e Φ Ψ := Iff.rfl
@[simp ↓] theorem test_ch {o o' : B} {Φ : Bool → Env → Prop} : wp ((ev sub F (.ch o o' a b c)).test) e Φ Ψ ↔ wp (mb (plOf (.ch o o' a b c) (ev sub F (.ch o o' a b c)).val) fun p => mb (rdP p) truthE) e Φ Ψ := Iff.rfl
@[simp ↓] theorem test_not {Φ : Bool → Env → Prop} : wp ((ev sub F (.not a)).test) e Φ Ψ ↔ wp (mb (ev sub F a).test fun t => pu (!t)) e Φ Ψ := Iff.rfl
@[simp ↓] theorem wp_andt {Φ : Bool → Env → Prop} : wp (ev sub F (.and a b)).test e Φ Ψ ↔ wp (ev sub F a).test e (fun t e' => if t = true then wp (ev sub F b).test e' Φ Ψ else Φ false e') Ψ := by
  show wp (mb (ev sub F a).test _) e Φ Ψ ↔ _
  rw [wp_mb]
  constructor <;> intro h <;> refine wp_mono h (fun t e' z => ?_) fun _ _ z => z
  · cases t <;> first | exact z | exact wp.run z | exact ⟨z⟩
  · cases t <;> first | exact z | exact wp.run z | exact ⟨z⟩
@[simp ↓] theorem wp_ort {Φ : Bool → Env → Prop} : wp (ev sub F (.or a b)).test e Φ Ψ ↔ wp (ev sub F a).test e (fun t e' => if t = true then Φ true e' else wp (ev sub F b).test e' Φ Ψ) Ψ := by
  show wp (mb (ev sub F a).test _) e Φ Ψ ↔ _
  rw [wp_mb]
  constructor <;> intro h <;> refine wp_mono h (fun t e' z => ?_) fun _ _ z => z
  · cases t <;> first | exact z | exact wp.run z | exact ⟨z⟩
  · cases t <;> first | exact z | exact wp.run z | exact ⟨z⟩
@[simp ↓] theorem wp_itet {Φ : Bool → Env → Prop} : wp (ev sub F (.ite c a b)).test e Φ Ψ ↔ wp (ev sub F c).test e (fun t e' => if t = true then wp (ev sub F a).test e' Φ Ψ else wp (ev sub F b).test e' Φ Ψ) Ψ := by
  show wp (mb (ev sub F c).test _) e Φ Ψ ↔ _
  rw [wp_mb]
  constructor <;> intro h <;> refine wp_mono h (fun t e' z => ?_) fun _ _ z => z
  · cases t <;> first | exact z | exact wp.run z | exact ⟨z⟩
  · cases t <;> first | exact z | exact wp.run z | exact ⟨z⟩
@[simp ↓] theorem wp_muE {o : Mu} {i : Nat} {ds : List D} {Φ : Nat × D → Env → Prop} : wp (muE o i ds) e Φ Ψ ↔ look e[i]? fun x => (x.1 == 1) = true ∧ ∃ r, msem o x.2 ds = some r ∧ i < e.length ∧ Φ (0, r.2) (e.set i (some (1, r.1))) := by
  unfold muE
  simp only [wp_mb, wps_getE, wp_tst, wp_op, wps_setE, wp_pu]
variable {Φ : Fl → Env → Prop}
@[simp ↓] theorem s_asg {i : Nat} {Φ : Fl → Env → Prop} : wp (evS sub F (.asg i x)) e Φ Ψ ↔ wp (mb (ev sub F x).val fun r => mb (setE i r) fun _ => pu .nx) e Φ Ψ := Iff.rfl
@[simp ↓] theorem s_par {is : List Nat} {Φ : Fl → Env → Prop} : wp (evS sub F (.par is es)) e Φ Ψ ↔ wp (mb (evPs sub F es) fun ps => mb (vlPs ps) fun l => mb (setAll is l) fun _ => pu .nx) e Φ Ψ := Iff.rfl
@[simp ↓] theorem s_unp {is : List Nat} {Φ : Fl → Env → Prop} : wp (evS sub F (.unp is x)) e Φ Ψ ↔ wp (mb (ev sub F x).val fun r => mb (unpE is r.2) fun _ => pu .nx) e Φ Ψ := Iff.rfl
@[simp ↓] theorem s_put {i : Nat} {Φ : Fl → Env → Prop} : wp (evS sub F (.put i a x)) e Φ Ψ ↔ wp (mb (getE i) fun _ => mb (evPs sub F (.cons x (.cons a .nil))) fun ps => mb (vlPs ps) fun l => mb (muE .put i (l.map (·.2)).reverse) fun _ => pu .nx) e Φ Ψ := Iff.rfl
@[simp ↓] theorem s_ex {Φ : Fl → Env → Prop} : wp (evS sub F (.ex x)) e Φ Ψ ↔ wp (mb (plOf x (ev sub F x).val) fun _ => pu .nx) e Φ Ψ := Iff.rfl
@[simp ↓] theorem s_ret {Φ : Fl → Env → Prop} : wp (evS sub F (.ret x)) e Φ Ψ ↔ wp (mb (ev sub F x).val fun r => pu (.rt r.1 r.2)) e Φ Ψ := Iff.rfl
@[simp ↓] theorem s_ret0 {Φ : Fl → Env → Prop} : wp (evS sub F .ret0) e Φ Ψ ↔ wp (pu (.rt 1 .non)) e Φ Ψ := Iff.rfl
@[simp ↓] theorem s_brk {Φ : Fl → Env → Prop} : wp (evS sub F .brk) e Φ Ψ ↔ wp (pu .bk) e Φ Ψ := Iff.rfl
@[simp ↓] theorem s_cnt {Φ : Fl → Env → Prop} : wp (evS sub F .cnt) e Φ Ψ ↔ wp (pu .ct) e Φ Ψ := Iff.rfl
@[simp ↓] theorem s_pss {Φ : Fl → Env → Prop} : wp (evS sub F .pss) e Φ Ψ ↔ wp (pu .nx) e Φ Ψ := Iff.rfl
@[simp ↓] theorem s_for {tg : List Nat} {it : It} {b : Ss} {Φ : Fl → Env → Prop} : wp (evS sub F (.for_ tg it es b)) e Φ Ψ ↔ wp (mb (evPs sub F es) fun ps => mb (vlPs ps) fun l => mb (op (isem it (l.map (·.2)))) fun xs => forL (bindT tg) (evSs sub F b) xs) e Φ Ψ := Iff.rfl
@[simp ↓] theorem s_rse {k : Nat} {Φ : Fl → Env → Prop} : wp (evS sub F (.rse k es)) e Φ Ψ ↔ wp (mb (evPs sub F es) fun ps => mb (vlPs ps) fun l => tst (decide (l.length ≤ 1000) && !(sub k).isEmpty) (rz (.exn k (l.map (·.2))))) e Φ Ψ := Iff.rfl
@[simp ↓] theorem wp_try {b h : Ss} {k : Nat} {i : Option Nat} : wp (evS sub F (.try_ b k i h)) e Φ Ψ ↔ wp (evSs sub F b) e Φ (fun x e' => (tryK sub k i (evSs sub F h) (.err x e')).All (pst Φ Ψ)) := by
  rw [wpi, wpi]
  show ((evSs sub F b e).bind _).All _ ↔ _
  rw [Tr.all_bind]
  constructor <;> intro h <;> refine Tr.All.mono h fun r z => ?_
  · match r, z with
    | .ok f e', z => cases f <;> exact z
    | .err x e', z => exact z
  · match r, z with
    | .ok f e', z => cases f <;> exact z
    | .err x e', z => exact z
@[simp ↓] theorem bindT_1 {i : Nat} {d : D} {Φ : Unit → Env → Prop} : wp (bindT [i] d) e Φ Ψ ↔ wp (setE i (0, d)) e Φ Ψ := Iff.rfl
@[simp ↓] theorem bindT_2 {i j : Nat} {l : List D} {Φ : Unit → Env → Prop} : wp (bindT [i, j] (.tup l)) e Φ Ψ ↔ wp (bindTs [i, j] l) e Φ Ψ := Iff.rfl
@[simp ↓] theorem bindT_3 {i j k : Nat} {l : List D} {Φ : Unit → Env → Prop} : wp (bindT [i, j, k] (.tup l)) e Φ Ψ ↔ wp (bindTs [i, j, k] l) e Φ Ψ := Iff.rfl
@[simp ↓] theorem bindTs_nil {Φ : Unit → Env → Prop} : wp (bindTs [] []) e Φ Ψ ↔ wp (pu ()) e Φ Ψ := Iff.rfl
@[simp ↓] theorem bindTs_cons {i : Nat} {is : List Nat} {d : D} {ds : List D} {Φ : Unit → Env → Prop} : wp (bindTs (i :: is) (d :: ds)) e Φ Ψ ↔ wp (mb (setE i (0, d)) fun _ => bindTs is ds) e Φ Ψ := Iff.rfl
@[simp ↓] theorem setAll_nil {Φ : Unit → Env → Prop} : wp (setAll [] []) e Φ Ψ ↔ wp (pu ()) e Φ Ψ := Iff.rfl
@[simp ↓] theorem setAll_cons {i : Nat} {is : List Nat} {d : Nat × D} {ds : List (Nat × D)} {Φ : Unit → Env → Prop} : wp (setAll (i :: is) (d :: ds)) e Φ Ψ ↔ wp (mb (setE i d) fun _ => setAll is ds) e Φ Ψ := Iff.rfl
@[simp ↓] theorem unpE_tup {is : List Nat} {l : List D} {Φ : Unit → Env → Prop} : wp (unpE is (.tup l)) e Φ Ψ ↔ wp (bindTs is l) e Φ Ψ := Iff.rfl
@[simp] theorem okN_nil : okN [] = true := rfl
@[simp] theorem okN_cons {r : Nat × D} {l : List (Nat × D)} : okN (r :: l) = (ok1 r.1 r.2 && okN l) := rfl
@[simp] theorem ok1_0 {d : D} : ok1 0 d = true := by cases d <;> rfl
/-! ### data -/
@[simp] theorem top_int {i : Int} : top (.int i) = 0 := rfl
@[simp] theorem top_bl {i : Bool} : top (.bl i) = 0 := rfl
@[simp] theorem top_str {i : Str} : top (.str i) = 0 := rfl
@[simp] theorem top_tup {i : List D} : top (.tup i) = 0 := rfl
@[simp] theorem top_lst {i : List D} : top (.lst i) = 1 := rfl
@[simp] theorem top_dct {i : List (D × D)} : top (.dct i) = 1 := rfl
@[simp] theorem top_set {i : List D} : top (.set i) = 1 := rfl
@[simp] theorem top_non  : top .non = 0 := rfl
@[simp] theorem top_exn {c : Nat} {i : List D} : top (.exn c i) = 0 := rfl
@[simp] theorem ok1_int {i : Int} : ok1 1 (.int i) = true := rfl
@[simp] theorem ok1_bl {i : Bool} : ok1 1 (.bl i) = true := rfl
@[simp] theorem ok1_str {i : Str} : ok1 1 (.str i) = true := rfl
@[simp] theorem ok1_lst {i : List D} : ok1 1 (.lst i) = true := rfl
@[simp] theorem ok1_dct {i : List (D × D)} : ok1 1 (.dct i) = true := rfl
@[simp] theorem ok1_set {i : List D} : ok1 1 (.set i) = true := rfl
@[simp] theorem ok1_non  : ok1 1 .non = true := rfl
@[simp] theorem bopN_idx {d : D} : bopN .idx d = 0 := rfl
@[simp] theorem bopN_get1 {d : D} : bopN .get1 d = 0 := rfl
@[simp] theorem bopN_get2 {d : D} : bopN .get2 d = 0 := rfl
@[simp] theorem bopN_att {t : List (Nat × Nat)} {d : D} : bopN (.att t) d = 0 := rfl
@[simp] theorem bopN_add {d : D} : bopN .add d = top d := rfl
@[simp] theorem bopN_sub {d : D} : bopN .sub d = top d := rfl
@[simp] theorem bopN_mul {d : D} : bopN .mul d = top d := rfl
@[simp] theorem bopN_fdiv {d : D} : bopN .fdiv d = top d := rfl
@[simp] theorem bopN_mod {d : D} : bopN .mod d = top d := rfl
@[simp] theorem bopN_pow {d : D} : bopN .pow d = top d := rfl
@[simp] theorem bopN_neg {d : D} : bopN .neg d = top d := rfl
@[simp] theorem bopN_eq {d : D} : bopN .eq d = top d := rfl
@[simp] theorem bopN_ne {d : D} : bopN .ne d = top d := rfl
@[simp] theorem bopN_lt {d : D} : bopN .lt d = top d := rfl
@[simp] theorem bopN_le {d : D} : bopN .le d = top d := rfl
@[simp] theorem bopN_gt {d : D} : bopN .gt d = top d := rfl
@[simp] theorem bopN_ge {d : D} : bopN .ge d = top d := rfl
@[simp] theorem bopN_isN {d : D} : bopN .isN d = top d := rfl
@[simp] theorem bopN_notN {d : D} : bopN .notN d = top d := rfl
@[simp] theorem bopN_inn {d : D} : bopN .inn d = top d := rfl
@[simp] theorem bopN_nin {d : D} : bopN .nin d = top d := rfl
@[simp] theorem bopN_rev {d : D} : bopN .rev d = top d := rfl
@[simp] theorem bopN_len {d : D} : bopN .len d = top d := rfl
@[simp] theorem bopN_list {d : D} : bopN .list d = top d := rfl
@[simp] theorem bopN_tuple {d : D} : bopN .tuple d = top d := rfl
@[simp] theorem bopN_set {d : D} : bopN .set d = top d := rfl
@[simp] theorem bopN_sorted {d : D} : bopN .sorted d = top d := rfl
@[simp] theorem bopN_dict {d : D} : bopN .dict d = top d := rfl
@[simp] theorem bopN_abs {d : D} : bopN .abs d = top d := rfl
@[simp] theorem bopN_int {d : D} : bopN .int d = top d := rfl
@[simp] theorem bopN_max2 {d : D} : bopN .max2 d = top d := rfl
@[simp] theorem bopN_min2 {d : D} : bopN .min2 d = top d := rfl
@[simp] theorem bopN_maxL {d : D} : bopN .maxL d = top d := rfl
@[simp] theorem bopN_minL {d : D} : bopN .minL d = top d := rfl
@[simp] theorem bopN_sum {d : D} : bopN .sum d = top d := rfl
@[simp] theorem bopN_any {d : D} : bopN .any d = top d := rfl
@[simp] theorem bopN_all {d : D} : bopN .all d = top d := rfl
@[simp] theorem bopN_repr {d : D} : bopN .repr d = top d := rfl
@[simp] theorem bopN_tupR {d : D} : bopN .tupR d = top d := rfl
@[simp] theorem bopN_listR {d : D} : bopN .listR d = top d := rfl
@[simp] theorem bopN_isi {ts : List Ty} {b : Bool} {d : D} : bopN (.isi ts b) d = top d := rfl
@[simp] theorem bopN_isx {t : Ty} {d : D} : bopN (.isx t) d = top d := rfl
@[simp] theorem bopN_slc {x y : Bool} {d : D} : bopN (.slc x y) d = top d := rfl
@[simp] theorem tr_non  : D.truth .non = some false := rfl
@[simp] theorem tr_bl {b : Bool} : D.truth (.bl b) = some b := rfl
@[simp] theorem tr_int {i : Int} : D.truth (.int i) = some (i != 0) := rfl
@[simp] theorem tr_tup {l : List D} : D.truth (.tup l) = some (!l.isEmpty) := rfl
@[simp] theorem tr_lst {l : List D} : D.truth (.lst l) = some (!l.isEmpty) := rfl
@[simp] theorem bs_add {ds : List D} : bsem sub .add ds = bAdd ds := rfl
@[simp] theorem bAdd_ii {a b : Int} : bAdd [.int a, .int b] = some (.int (a + b)) := rfl
@[simp] theorem bAdd_str {a b : Str} : bAdd [.str a, .str b] = if a.length + b.length ≤ sizeLine then some (.str (a ++ b)) else none := rfl
@[simp] theorem bAdd_lst {a b : List D} : bAdd [.lst a, .lst b] = if a.length + b.length ≤ sizeLine then some (.lst (a ++ b)) else none := rfl
@[simp] theorem bAdd_tup {a b : List D} : bAdd [.tup a, .tup b] = if a.length + b.length ≤ sizeLine then some (.tup (a ++ b)) else none := rfl
@[simp] theorem bs_sub {a b : Int} : bsem sub .sub [.int a, .int b] = some (.int (a - b)) := rfl
@[simp] theorem bs_mul {ds : List D} : bsem sub .mul ds = bMul ds := rfl
@[simp] theorem bMul_ii {a b : Int} : bMul [.int a, .int b] = if (big a || big b) = true then some (.int (a * b)) else none := rfl
@[simp] theorem bs_fdiv {a b : Int} : bsem sub .fdiv [.int a, .int b] = if 0 < b ∧ b < 1073741824 then some (.int (a / b)) else none := rfl
@[simp] theorem bs_mod {a b : Int} : bsem sub .mod [.int a, .int b] = if 0 < b then some (.int (a % b)) else none := rfl
@[simp] theorem bs_neg {a : Int} : bsem sub .neg [.int a] = some (.int (-a)) := rfl
@[simp] theorem bs_eq {a b : D} : bsem sub .eq [a, b] = (eqD a b).map .bl := rfl
@[simp] theorem bs_ne {a b : D} : bsem sub .ne [a, b] = (eqD a b).map fun c => .bl (!c) := rfl
@[simp] theorem bs_lt {a b : Int} : bsem sub .lt [.int a, .int b] = some (.bl (decide (a < b))) := rfl
@[simp] theorem bs_le {a b : Int} : bsem sub .le [.int a, .int b] = some (.bl (decide (a ≤ b))) := rfl
@[simp] theorem bs_gt {a b : Int} : bsem sub .gt [.int a, .int b] = some (.bl (decide (b < a))) := rfl
@[simp] theorem bs_ge {a b : Int} : bsem sub .ge [.int a, .int b] = some (.bl (decide (b ≤ a))) := rfl
@[simp] theorem bs_isN {a : D} : bsem sub .isN [a] = some (.bl (isNone a)) := rfl
@[simp] theorem bs_notN {a : D} : bsem sub .notN [a] = some (.bl (!isNone a)) := rfl
@[simp] theorem bs_inn {a b : D} : bsem sub .inn [a, b] = (inD a b).map .bl := rfl
@[simp] theorem bs_nin {a b : D} : bsem sub .nin [a, b] = (inD a b).map fun b => .bl (!b) := rfl
@[simp] theorem bs_idx {a b : D} : bsem sub .idx [a, b] = idxD a b := rfl
@[simp] theorem idx_l {l : List D} {i : Int} : idxD (.lst l) (.int i) = L2.atI l i := rfl
@[simp] theorem idx_t {l : List D} {i : Int} : idxD (.tup l) (.int i) = L2.atI l i := rfl
@[simp] theorem bs_slc0 {d : D} {a b : Int} : bsem sub (.slc true true) [d, .int a, .int b] = slcD (some a) (some b) d := rfl
@[simp] theorem bs_slc1 {d : D} {a : Int} : bsem sub (.slc true false) [d, .int a] = slcD (some a) none d := rfl
@[simp] theorem bs_slc2 {d : D} {b : Int} : bsem sub (.slc false true) [d, .int b] = slcD none (some b) d := rfl
@[simp] theorem slc_l {l : List D} {lo hi : Option Int} : slcD lo hi (.lst l) = some (.lst (cut l lo hi)) := rfl
@[simp] theorem slc_t {l : List D} {lo hi : Option Int} : slcD lo hi (.tup l) = some (.tup (cut l lo hi)) := rfl
@[simp] theorem slc_s {l : List Int} {lo hi : Option Int} : slcD lo hi (.scr l) = some (.lst (cut (l.map .int) lo hi)) := rfl
@[simp] theorem bs_len {d : D} : bsem sub .len [d] = lenD d := rfl
@[simp] theorem bs_list {d : D} : bsem sub .list [d] = listD d := rfl
@[simp] theorem bs_tuple {d : D} : bsem sub .tuple [d] = tupleD d := rfl
@[simp] theorem bs_set {d : D} : bsem sub .set [d] = setB d := rfl
@[simp] theorem bs_sorted {d : D} : bsem sub .sorted [d] = sortB d := rfl
@[simp] theorem bs_rev {d : D} : bsem sub .rev [d] = revD d := rfl
@[simp] theorem bs_dict {d : D} : bsem sub .dict [d] = dictB d := rfl
@[simp] theorem bs_abs {d : D} : bsem sub .abs [d] = absD d := rfl
@[simp] theorem bs_int {d : D} : bsem sub .int [d] = intD d := rfl
@[simp] theorem bs_maxL {d : D} : bsem sub .maxL [d] = maxLD d := rfl
@[simp] theorem bs_minL {d : D} : bsem sub .minL [d] = minLD d := rfl
@[simp] theorem bs_sum {d : D} : bsem sub .sum [d] = sumD d := rfl
@[simp] theorem bs_any {d : D} : bsem sub .any [d] = anyD d := rfl
@[simp] theorem bs_all {d : D} : bsem sub .all [d] = allD d := rfl
@[simp] theorem bs_repr {d : D} : bsem sub .repr [d] = reprD d := rfl
@[simp] theorem len_lst {l : List D} : lenD (.lst l) = some (.int l.length) := rfl
@[simp] theorem len_tup {l : List D} : lenD (.tup l) = some (.int l.length) := rfl
@[simp] theorem len_dct {l : List (D × D)} : lenD (.dct l) = some (.int l.length) := rfl
@[simp] theorem len_set {l : List D} : lenD (.set l) = some (.int l.length) := rfl
@[simp] theorem len_scr {l : List Int} : lenD (.scr l) = some (.int l.length) := rfl
@[simp] theorem list_l {l : List D} : listD (.lst l) = some (.lst l) := rfl
@[simp] theorem list_t {l : List D} : listD (.tup l) = some (.lst l) := rfl
@[simp] theorem list_d {l : List (D × D)} : listD (.dct l) = some (.lst (l.map (·.1))) := rfl
@[simp] theorem tuple_l {l : List D} : tupleD (.lst l) = some (.tup l) := rfl
@[simp] theorem tuple_t {l : List D} : tupleD (.tup l) = some (.tup l) := rfl
@[simp] theorem rev_l {l : List D} : revD (.lst l) = some (.lst l.reverse) := rfl
@[simp] theorem rev_t {l : List D} : revD (.tup l) = some (.tup l.reverse) := rfl
@[simp] theorem int_i {a : Int} : intD (.int a) = some (.int a) := rfl
@[simp] theorem bs_max2 {a b : Int} : bsem sub .max2 [.int a, .int b] = some (.int (if b > a then b else a)) := rfl
@[simp] theorem bs_min2 {a b : Int} : bsem sub .min2 [.int a, .int b] = some (.int (if b < a then b else a)) := rfl
@[simp] theorem bs_isx {t : Ty} {d : D} : bsem sub (.isx t) [d] = isxD sub t d := rfl
@[simp] theorem bs_att {t : List (Nat × Nat)} {d : D} : bsem sub (.att t) [d] = attD t d := rfl
@[simp] theorem bs_isi {ts : List Ty} {o : Bool} {d : D} : bsem sub (.isi ts o) [d] = if ((tyD d).isSome && ts.all fun t => !t.own) = true then some (.bl (ts.any fun t => isTy sub t d)) else none := rfl
@[simp] theorem bs_listR {n : Int} : bsem sub .listR [.int n] = if 0 ≤ n ∧ n ≤ 10000 then some (.lst (rangeD 0 n)) else none := rfl
@[simp] theorem bs_tupR {n : Int} : bsem sub .tupR [.int n] = if 0 ≤ n ∧ n ≤ 10000 then some (.tup (rangeD 0 n)) else none := rfl
@[simp] theorem is_seql {l : List D} : isem .seq [.lst l] = some l := rfl
@[simp] theorem is_seqt {l : List D} : isem .seq [.tup l] = some l := rfl
@[simp] theorem is_r1 {n : Int} : isem .range1 [.int n] = if -1000000000 < n ∧ n < 1000000000 then some (rangeD 0 n) else none := rfl
@[simp] theorem is_r2 {a b : Int} : isem .range2 [.int a, .int b] = if (-1000000000 < a ∧ a < 1000000000) ∧ (-1000000000 < b ∧ b < 1000000000) then some (rangeD a b) else none := rfl
@[simp] theorem is_en {l : List D} : isem .enum [.lst l] = some (enumD l) := rfl
@[simp] theorem inD_l {x : D} {l : List D} : inD x (.lst l) = anyEq x l := rfl
@[simp] theorem inD_t {x : D} {l : List D} : inD x (.tup l) = anyEq x l := rfl
@[simp] theorem isL_l {l : List D} : isL (.lst l) = true := rfl
@[simp] theorem isI_i {i : Int} : isI (.int i) = true := rfl
@[simp] theorem ms_pop1 {l : List D} {i : Int} : msem .pop1 (.lst l) [.int i] = if l.length ≤ sizeLine then (match L2.ixN l.length i with | some k => (match l[k]? with | some x => some (.lst (l.eraseIdx k), x) | none => none) | none => none) else none := rfl
@[simp] theorem ms_app {l : List D} {x : D} : msem .append (.lst l) [x] = if l.length < sizeLine then some (.lst (l ++ [x]), .non) else none := rfl
@[simp] theorem ms_put {l : List D} {i : Int} {x : D} : msem .put (.lst l) [.int i, x] = match L2.ixN l.length i with | some k => some (.lst (l.set k x), .non) | none => none := rfl
end
end G

set_option maxHeartbeats 400000
/-! G.LawP: a law's begin and the law itself, by what they come to. -/
namespace G
open PySem
theorem BeginOk.of {tl : Nat} {Fb : Fn} {ns : List Int} (h : wpF (Fb [.scr ns]) (fun fr d => ∃ (cs : List Int) (i m : Int) (ts : List Int), fr = true ∧ d = .lst (.lst (cs.map .int) :: .int i :: .int m :: ts.map .int) ∧ 0 ≤ i ∧ 0 ≤ m ∧ m < 2147483648 ∧ cs ≠ [] ∧ cs.length ≤ 63 ∧ ts.length = tl) fun _ => False) : BeginOk tl Fb ns :=
  ⟨wpF_all h (fun fr d ⟨cs, i, m, ts, z1, z2, z⟩ => ⟨cs, i, m, ts, by rw [z1, z2], z⟩) fun x z => z.elim⟩
theorem SaysT.of {m : M Fl} {N : Nat} {ns : List Int} (h : wp m (some (0, .scr ns) :: some (0, .rnd) :: List.replicate N none) (fun f _ => ∃ n, f = .rt n (.bl true)) fun _ _ => False) : SaysT m N ns :=
  ⟨Tr.All.mono h.run fun r z => match r, z with
    | .ok f e, ⟨n, z⟩ => ⟨n, e, by rw [z]⟩
    | .err x e, z => z.elim⟩
end G
namespace G
open PySem
theorem wpF_draw {n : Int} {Φ : Bool → D → Prop} {Ψ : D → Prop} (h : 0 < n ∧ n < 1000000) (k : ∀ i : Nat, (i : Int) < n → Φ false (.int i)) : wpF (drawF [.rnd, .int n]) Φ Ψ := by
  refine ⟨?_⟩
  unfold drawF
  simp only
  rw [if_pos h]
  exact fun i hi => k i (by omega)
theorem atI_nat' {α : Type} {l : List α} {i : Nat} (h : i < l.length) : L2.atI l (i : Int) = some l[i] := by
  unfold L2.atI
  rw [ixN_k h]
  simp [h]
theorem eqD_int {a b : Int} : eqD (.int a) (.int b) = some (decide (a = b)) := by
  simp [eqD, D.py, pl, PyData.plain, PyData.depth, PyData.eqv]
  rw [Bool.eq_iff_iff, beq_iff_eq, decide_eq_true_eq]
theorem eqD_str {a b : Str} : eqD (.str a) (.str b) = some (decide (a = b)) := by
  simp [eqD, D.py, pl, PyData.plain, PyData.depth, PyData.eqv]
  rw [Bool.eq_iff_iff, beq_iff_eq, decide_eq_true_eq]
end G

set_option maxHeartbeats 1000000
namespace K
open PySem PySem.Spec PyProof.Rows L2 G
abbrev top (i : Nat) : Stmt := PySem.Challenge.pw_inplace_k05_errors.main.body.getD i (.Pass ⟨0, 0, 0, 0⟩)
abbrev s__law_take : Stmt := top 21
abbrev n__law_take : List Str := ["_law_draw", "_law_size", "_law_cells", "_law_at", "_law_cell", "_law_mixed"]
abbrev p__law_take : List Str := ["_law_draw", "_law_size"]
theorem sc__law_take : FnScope n__law_take p__law_take (defScope s__law_take) := ⟨rfl, rfl, rfl, by decide +kernel, rfl, by decide +kernel, by decide +kernel⟩
abbrev s__law_begin : Stmt := top 20
abbrev n__law_begin : List Str := ["_law_script", "_law_cell"]
abbrev p__law_begin : List Str := ["_law_script"]
theorem sc__law_begin : FnScope n__law_begin p__law_begin (defScope s__law_begin) := ⟨rfl, rfl, rfl, by decide +kernel, rfl, by decide +kernel, by decide +kernel⟩
abbrev s__law_pick : Stmt := top 22
abbrev n__law_pick : List Str := ["_law_draw", "_law_some"]
abbrev p__law_pick : List Str := ["_law_draw", "_law_some"]
theorem sc__law_pick : FnScope n__law_pick p__law_pick (defScope s__law_pick) := ⟨rfl, rfl, rfl, by decide +kernel, rfl, by decide +kernel, by decide +kernel⟩
abbrev s__law_marks : Stmt := top 23
abbrev n__law_marks : List Str := ["_law_error", "_law_found"]
abbrev p__law_marks : List Str := ["_law_error"]
theorem sc__law_marks : FnScope n__law_marks p__law_marks (defScope s__law_marks) := ⟨rfl, rfl, rfl, by decide +kernel, rfl, by decide +kernel, by decide +kernel⟩
abbrev s__law_pairs : Stmt := top 24
abbrev n__law_pairs : List Str := ["_law_what", "_law_found"]
abbrev p__law_pairs : List Str := ["_law_what"]
theorem sc__law_pairs : FnScope n__law_pairs p__law_pairs (defScope s__law_pairs) := ⟨rfl, rfl, rfl, by decide +kernel, rfl, by decide +kernel, by decide +kernel⟩
abbrev s__law_held : Stmt := top 25
abbrev n__law_held : List Str := ["_law_error", "_law_at"]
abbrev p__law_held : List Str := ["_law_error", "_law_at"]
theorem sc__law_held : FnScope n__law_held p__law_held (defScope s__law_held) := ⟨rfl, rfl, rfl, by decide +kernel, rfl, by decide +kernel, by decide +kernel⟩
abbrev s__law_right : Stmt := top 26
abbrev n__law_right : List Str := ["_law_error", "_law_at", "_law_what", "_law_spot"]
abbrev p__law_right : List Str := ["_law_error", "_law_at", "_law_what"]
theorem sc__law_right : FnScope n__law_right p__law_right (defScope s__law_right) := ⟨rfl, rfl, rfl, by decide +kernel, rfl, by decide +kernel, by decide +kernel⟩
abbrev s__law_caught : Stmt := top 27
abbrev n__law_caught : List Str := ["_law_what", "_law_found"]
abbrev p__law_caught : List Str := ["_law_what"]
theorem sc__law_caught : FnScope n__law_caught p__law_caught (defScope s__law_caught) := ⟨rfl, rfl, rfl, by decide +kernel, rfl, by decide +kernel, by decide +kernel⟩
abbrev s_law : Stmt := top 28
abbrev n_law : List Str := ["_law_script", "_law_draw", "_law_turn", "_law_some", "_law_what", "_law_at", "_law_pair"]
abbrev p_law : List Str := ["_law_script"]
theorem sc_law : FnScope n_law p_law (defScope s_law) := ⟨rfl, rfl, rfl, by decide +kernel, rfl, by decide +kernel, by decide +kernel⟩
/-- the classes of errors -/
def ct : ClsT := [("InplaceError", [], [0]), ("InvalidProgram", ["index"], [1, 0]), ("UnknownValue", ["name"], [2, 0]), ("UnknownStatement", ["name"], [3, 0]), ("InvalidCell", ["index"], [4, 0]), ("InvalidOrder", ["index"], [5, 0]), ("InvalidPlan", ["index"], [6, 0]), ("InvalidChain", ["index"], [7, 0]), ("HasCycle", ["cycle"], [8, 0]), ("InvalidAssignment", ["name"], [9, 0]), ("InvalidModule", ["index"], [10, 0]), ("UnknownFunction", ["name"], [11, 0]), ("UnknownArm", ["index"], [12, 0]), ("InvalidSignature", ["index"], [13, 0]), ("InvalidCounts", ["arm"], [14, 0]), ("InvalidTree", [], [15, 0]), ("InvalidSweep", ["index"], [16, 0]), ("InvalidText", ["line"], [17, 0])]
def tbl_arm : List (Nat × Nat) := [(14, 0)]
theorem tok_arm : ∀ c i, tbl_arm.lookup c = some i → (ct.sub c).isEmpty = false ∧ ct.cf c = [("arm" : Str)] ∧ i = 0 := tokB (by decide +kernel)
def tbl_cycle : List (Nat × Nat) := [(8, 0)]
theorem tok_cycle : ∀ c i, tbl_cycle.lookup c = some i → (ct.sub c).isEmpty = false ∧ ct.cf c = [("cycle" : Str)] ∧ i = 0 := tokB (by decide +kernel)
def tbl_index : List (Nat × Nat) := [(1, 0), (4, 0), (5, 0), (6, 0), (7, 0), (10, 0), (12, 0), (13, 0), (16, 0)]
theorem tok_index : ∀ c i, tbl_index.lookup c = some i → (ct.sub c).isEmpty = false ∧ ct.cf c = [("index" : Str)] ∧ i = 0 := tokB (by decide +kernel)
def tbl_line : List (Nat × Nat) := [(17, 0)]
theorem tok_line : ∀ c i, tbl_line.lookup c = some i → (ct.sub c).isEmpty = false ∧ ct.cf c = [("line" : Str)] ∧ i = 0 := tokB (by decide +kernel)
def tbl_name : List (Nat × Nat) := [(2, 0), (3, 0), (9, 0), (11, 0)]
theorem tok_name : ∀ c i, tbl_name.lookup c = some i → (ct.sub c).isEmpty = false ∧ ct.cf c = [("name" : Str)] ∧ i = 0 := tokB (by decide +kernel)
/-- what the top has written -/
structure Txt (K : PySem.W.Frag) (mg : Str → Option Value) (fd : Nat → FuncData) (fi : Nat → FuncData) : Prop where
  f__law_take : FE K mg "_law_take" s__law_take p__law_take (He.ga K "_law_take") (fd 1)
  f__law_begin : FE K mg "_law_begin" s__law_begin p__law_begin (He.ga K "_law_begin") (fd 0)
  f__law_pick : FE K mg "_law_pick" s__law_pick p__law_pick (He.ga K "_law_pick") (fd 2)
  f__law_marks : FE K mg "_law_marks" s__law_marks p__law_marks (He.ga K "_law_marks") (fd 3)
  f__law_pairs : FE K mg "_law_pairs" s__law_pairs p__law_pairs (He.ga K "_law_pairs") (fd 4)
  f__law_held : FE K mg "_law_held" s__law_held p__law_held (He.ga K "_law_held") (fd 5)
  f__law_right : FE K mg "_law_right" s__law_right p__law_right (He.ga K "_law_right") (fd 6)
  f__law_caught : FE K mg "_law_caught" s__law_caught p__law_caught (He.ga K "_law_caught") (fd 7)
  f_law : FE K mg "law" s_law p_law (He.ga K "law") (fd 8)
  i_HasCycle : FI K mg "HasCycle" (clsM (top 9) 0) ["self", "cycle"] (ct.ca K 8) (He.ma K (He.ga K "HasCycle") "__init__") (fi 8)
  i_InvalidAssignment : FI K mg "InvalidAssignment" (clsM (top 10) 0) ["self", "name"] (ct.ca K 9) (He.ma K (He.ga K "InvalidAssignment") "__init__") (fi 9)
  i_InvalidCell : FI K mg "InvalidCell" (clsM (top 5) 0) ["self", "index"] (ct.ca K 4) (He.ma K (He.ga K "InvalidCell") "__init__") (fi 4)
  i_InvalidChain : FI K mg "InvalidChain" (clsM (top 8) 0) ["self", "index"] (ct.ca K 7) (He.ma K (He.ga K "InvalidChain") "__init__") (fi 7)
  i_InvalidCounts : FI K mg "InvalidCounts" (clsM (top 15) 0) ["self", "arm"] (ct.ca K 14) (He.ma K (He.ga K "InvalidCounts") "__init__") (fi 14)
  i_InvalidModule : FI K mg "InvalidModule" (clsM (top 11) 0) ["self", "index"] (ct.ca K 10) (He.ma K (He.ga K "InvalidModule") "__init__") (fi 10)
  i_InvalidOrder : FI K mg "InvalidOrder" (clsM (top 6) 0) ["self", "index"] (ct.ca K 5) (He.ma K (He.ga K "InvalidOrder") "__init__") (fi 5)
  i_InvalidPlan : FI K mg "InvalidPlan" (clsM (top 7) 0) ["self", "index"] (ct.ca K 6) (He.ma K (He.ga K "InvalidPlan") "__init__") (fi 6)
  i_InvalidProgram : FI K mg "InvalidProgram" (clsM (top 2) 0) ["self", "index"] (ct.ca K 1) (He.ma K (He.ga K "InvalidProgram") "__init__") (fi 1)
  i_InvalidSignature : FI K mg "InvalidSignature" (clsM (top 14) 0) ["self", "index"] (ct.ca K 13) (He.ma K (He.ga K "InvalidSignature") "__init__") (fi 13)
  i_InvalidSweep : FI K mg "InvalidSweep" (clsM (top 17) 0) ["self", "index"] (ct.ca K 16) (He.ma K (He.ga K "InvalidSweep") "__init__") (fi 16)
  i_InvalidText : FI K mg "InvalidText" (clsM (top 18) 0) ["self", "line"] (ct.ca K 17) (He.ma K (He.ga K "InvalidText") "__init__") (fi 17)
  i_InvalidTree : FI K mg "InvalidTree" (clsM (top 16) 0) ["self"] (ct.ca K 15) (He.ma K (He.ga K "InvalidTree") "__init__") (fi 15)
  i_UnknownArm : FI K mg "UnknownArm" (clsM (top 13) 0) ["self", "index"] (ct.ca K 12) (He.ma K (He.ga K "UnknownArm") "__init__") (fi 12)
  i_UnknownFunction : FI K mg "UnknownFunction" (clsM (top 12) 0) ["self", "name"] (ct.ca K 11) (He.ma K (He.ga K "UnknownFunction") "__init__") (fi 11)
  i_UnknownStatement : FI K mg "UnknownStatement" (clsM (top 4) 0) ["self", "name"] (ct.ca K 3) (He.ma K (He.ga K "UnknownStatement") "__init__") (fi 3)
  i_UnknownValue : FI K mg "UnknownValue" (clsM (top 3) 0) ["self", "name"] (ct.ca K 2) (He.ma K (He.ga K "UnknownValue") "__init__") (fi 2)
  c_HasCycle : mg "HasCycle" = some (.ref (ct.ca K 8))
  c_InplaceError : mg "InplaceError" = some (.ref (ct.ca K 0))
  c_InvalidAssignment : mg "InvalidAssignment" = some (.ref (ct.ca K 9))
  c_InvalidCell : mg "InvalidCell" = some (.ref (ct.ca K 4))
  c_InvalidChain : mg "InvalidChain" = some (.ref (ct.ca K 7))
  c_InvalidCounts : mg "InvalidCounts" = some (.ref (ct.ca K 14))
  c_InvalidModule : mg "InvalidModule" = some (.ref (ct.ca K 10))
  c_InvalidOrder : mg "InvalidOrder" = some (.ref (ct.ca K 5))
  c_InvalidPlan : mg "InvalidPlan" = some (.ref (ct.ca K 6))
  c_InvalidProgram : mg "InvalidProgram" = some (.ref (ct.ca K 1))
  c_InvalidSignature : mg "InvalidSignature" = some (.ref (ct.ca K 13))
  c_InvalidSweep : mg "InvalidSweep" = some (.ref (ct.ca K 16))
  c_InvalidText : mg "InvalidText" = some (.ref (ct.ca K 17))
  c_InvalidTree : mg "InvalidTree" = some (.ref (ct.ca K 15))
  c_UnknownArm : mg "UnknownArm" = some (.ref (ct.ca K 12))
  c_UnknownFunction : mg "UnknownFunction" = some (.ref (ct.ca K 11))
  c_UnknownStatement : mg "UnknownStatement" = some (.ref (ct.ca K 3))
  c_UnknownValue : mg "UnknownValue" = some (.ref (ct.ca K 2))
  xt : XT K (ct.ca K) ct.cf ct.sub
  ba : BaseI K (ct.ca K 0)
structure Blt (mg : Str → Option Value) : Prop where
  ValueError : mg "ValueError" = none
  abs : mg "abs" = none
  enumerate : mg "enumerate" = none
  int : mg "int" = none
  isinstance : mg "isinstance" = none
  len : mg "len" = none
  min : mg "min" = none
  range : mg "range" = none
  repr : mg "repr" = none
section
variable {P : Program} {w : World} {K : PySem.W.Frag} {mg : Str → Option Value} {base : Heap} {fd fi : Nat → FuncData} {tl : Nat}
abbrev ok (K : PySem.W.Frag) (tl : Nat) : Rn → Prop := OkR (ct.ca K) ct.cf tl
theorem si_HasCycle : FnScope ["self", "cycle"] ["self", "cycle"] (defScope (clsM (top 9) 0)) := ⟨rfl, rfl, rfl, by decide +kernel, rfl, by decide +kernel, by decide +kernel⟩
theorem in_HasCycle (T : Txt K mg fd fi) : FnOk P w K mg base CX0 1 (He.ma K (He.ga K "HasCycle") "__init__") (fi 8) ["self", "cycle"] (spX (ct.ca K 8) "cycle") := by
  have O : OexC K (ct.ca K 8) := T.xt.ox 8 (by decide)
  obtain ⟨q, F⟩ := T.i_HasCycle.fu
  refine F.ok si_HasCycle (fun vs H Q E h => by obtain ⟨a, y, rfl, _⟩ := h; rfl) fun cdv A outer s H vs Q E hr h => ⟨_, pss_cons (ps_expr (pe_oinit rfl T.c_InplaceError T.ba (pa_cons (pv 0) (pa_cons pe_str pa_nil)))) (pss_one (ps_ostX (pv 0) (pv 1))), ?_⟩
  obtain ⟨a, y, rfl, ha, k⟩ := h
  exact ⟨_, rfl, a, _, _, rfl, by decide, O, ha, _, rfl, _, rfl, a, _, rfl, O, T.xt.no 8 "cycle" (by decide) (by decide), ha, k⟩
theorem mk_HasCycle (T : Txt K mg fd fi) : MkC P w K mg base (ct.ca K 8) (He.ma K (He.ga K "HasCycle") "__init__") 1 (fi 8) ["self", "cycle"] (spX (ct.ca K 8) "cycle") := ⟨T.xt.ox 8 (by decide), T.i_HasCycle.iC, T.i_HasCycle.tI, in_HasCycle T, T.i_HasCycle.b⟩
theorem bk_HasCycle (T : Txt K mg fd fi) (s : Shared) (u w : Value) : BindsTo s (fi 8) ⟨[u], [("cycle", w)]⟩ [("self", u), ("cycle", w)] := by
  obtain ⟨q, F⟩ := T.i_HasCycle.fu
  obtain ⟨oc, od, kV, doc, pm, an, cdv, ct, osl, e, _, _⟩ := F.ex
  rw [e]
  exact .of_eq rfl
theorem si_InvalidAssignment : FnScope ["self", "name"] ["self", "name"] (defScope (clsM (top 10) 0)) := ⟨rfl, rfl, rfl, by decide +kernel, rfl, by decide +kernel, by decide +kernel⟩
theorem in_InvalidAssignment (T : Txt K mg fd fi) : FnOk P w K mg base CX0 1 (He.ma K (He.ga K "InvalidAssignment") "__init__") (fi 9) ["self", "name"] (spX (ct.ca K 9) "name") := by
  have O : OexC K (ct.ca K 9) := T.xt.ox 9 (by decide)
  obtain ⟨q, F⟩ := T.i_InvalidAssignment.fu
  refine F.ok si_InvalidAssignment (fun vs H Q E h => by obtain ⟨a, y, rfl, _⟩ := h; rfl) fun cdv A outer s H vs Q E hr h => ⟨_, pss_cons (ps_expr (pe_oinit rfl T.c_InplaceError T.ba (pa_cons (pv 0) (pa_cons pe_str pa_nil)))) (pss_one (ps_ostX (pv 0) (pv 1))), ?_⟩
  obtain ⟨a, y, rfl, ha, k⟩ := h
  exact ⟨_, rfl, a, _, _, rfl, by decide, O, ha, _, rfl, _, rfl, a, _, rfl, O, T.xt.no 9 "name" (by decide) (by decide), ha, k⟩
theorem mk_InvalidAssignment (T : Txt K mg fd fi) : MkC P w K mg base (ct.ca K 9) (He.ma K (He.ga K "InvalidAssignment") "__init__") 1 (fi 9) ["self", "name"] (spX (ct.ca K 9) "name") := ⟨T.xt.ox 9 (by decide), T.i_InvalidAssignment.iC, T.i_InvalidAssignment.tI, in_InvalidAssignment T, T.i_InvalidAssignment.b⟩
theorem bk_InvalidAssignment (T : Txt K mg fd fi) (s : Shared) (u w : Value) : BindsTo s (fi 9) ⟨[u], [("name", w)]⟩ [("self", u), ("name", w)] := by
  obtain ⟨q, F⟩ := T.i_InvalidAssignment.fu
  obtain ⟨oc, od, kV, doc, pm, an, cdv, ct, osl, e, _, _⟩ := F.ex
  rw [e]
  exact .of_eq rfl
theorem si_InvalidCell : FnScope ["self", "index"] ["self", "index"] (defScope (clsM (top 5) 0)) := ⟨rfl, rfl, rfl, by decide +kernel, rfl, by decide +kernel, by decide +kernel⟩
theorem in_InvalidCell (T : Txt K mg fd fi) : FnOk P w K mg base CX0 1 (He.ma K (He.ga K "InvalidCell") "__init__") (fi 4) ["self", "index"] (spX (ct.ca K 4) "index") := by
  have O : OexC K (ct.ca K 4) := T.xt.ox 4 (by decide)
  obtain ⟨q, F⟩ := T.i_InvalidCell.fu
  refine F.ok si_InvalidCell (fun vs H Q E h => by obtain ⟨a, y, rfl, _⟩ := h; rfl) fun cdv A outer s H vs Q E hr h => ⟨_, pss_cons (ps_expr (pe_oinit rfl T.c_InplaceError T.ba (pa_cons (pv 0) (pa_cons pe_str pa_nil)))) (pss_one (ps_ostX (pv 0) (pv 1))), ?_⟩
  obtain ⟨a, y, rfl, ha, k⟩ := h
  exact ⟨_, rfl, a, _, _, rfl, by decide, O, ha, _, rfl, _, rfl, a, _, rfl, O, T.xt.no 4 "index" (by decide) (by decide), ha, k⟩
theorem mk_InvalidCell (T : Txt K mg fd fi) : MkC P w K mg base (ct.ca K 4) (He.ma K (He.ga K "InvalidCell") "__init__") 1 (fi 4) ["self", "index"] (spX (ct.ca K 4) "index") := ⟨T.xt.ox 4 (by decide), T.i_InvalidCell.iC, T.i_InvalidCell.tI, in_InvalidCell T, T.i_InvalidCell.b⟩
theorem bk_InvalidCell (T : Txt K mg fd fi) (s : Shared) (u w : Value) : BindsTo s (fi 4) ⟨[u], [("index", w)]⟩ [("self", u), ("index", w)] := by
  obtain ⟨q, F⟩ := T.i_InvalidCell.fu
  obtain ⟨oc, od, kV, doc, pm, an, cdv, ct, osl, e, _, _⟩ := F.ex
  rw [e]
  exact .of_eq rfl
theorem si_InvalidChain : FnScope ["self", "index"] ["self", "index"] (defScope (clsM (top 8) 0)) := ⟨rfl, rfl, rfl, by decide +kernel, rfl, by decide +kernel, by decide +kernel⟩
theorem in_InvalidChain (T : Txt K mg fd fi) : FnOk P w K mg base CX0 1 (He.ma K (He.ga K "InvalidChain") "__init__") (fi 7) ["self", "index"] (spX (ct.ca K 7) "index") := by
  have O : OexC K (ct.ca K 7) := T.xt.ox 7 (by decide)
  obtain ⟨q, F⟩ := T.i_InvalidChain.fu
  refine F.ok si_InvalidChain (fun vs H Q E h => by obtain ⟨a, y, rfl, _⟩ := h; rfl) fun cdv A outer s H vs Q E hr h => ⟨_, pss_cons (ps_expr (pe_oinit rfl T.c_InplaceError T.ba (pa_cons (pv 0) (pa_cons pe_str pa_nil)))) (pss_one (ps_ostX (pv 0) (pv 1))), ?_⟩
  obtain ⟨a, y, rfl, ha, k⟩ := h
  exact ⟨_, rfl, a, _, _, rfl, by decide, O, ha, _, rfl, _, rfl, a, _, rfl, O, T.xt.no 7 "index" (by decide) (by decide), ha, k⟩
theorem mk_InvalidChain (T : Txt K mg fd fi) : MkC P w K mg base (ct.ca K 7) (He.ma K (He.ga K "InvalidChain") "__init__") 1 (fi 7) ["self", "index"] (spX (ct.ca K 7) "index") := ⟨T.xt.ox 7 (by decide), T.i_InvalidChain.iC, T.i_InvalidChain.tI, in_InvalidChain T, T.i_InvalidChain.b⟩
theorem bk_InvalidChain (T : Txt K mg fd fi) (s : Shared) (u w : Value) : BindsTo s (fi 7) ⟨[u], [("index", w)]⟩ [("self", u), ("index", w)] := by
  obtain ⟨q, F⟩ := T.i_InvalidChain.fu
  obtain ⟨oc, od, kV, doc, pm, an, cdv, ct, osl, e, _, _⟩ := F.ex
  rw [e]
  exact .of_eq rfl
theorem si_InvalidCounts : FnScope ["self", "arm"] ["self", "arm"] (defScope (clsM (top 15) 0)) := ⟨rfl, rfl, rfl, by decide +kernel, rfl, by decide +kernel, by decide +kernel⟩
theorem in_InvalidCounts (T : Txt K mg fd fi) : FnOk P w K mg base CX0 1 (He.ma K (He.ga K "InvalidCounts") "__init__") (fi 14) ["self", "arm"] (spX (ct.ca K 14) "arm") := by
  have O : OexC K (ct.ca K 14) := T.xt.ox 14 (by decide)
  obtain ⟨q, F⟩ := T.i_InvalidCounts.fu
  refine F.ok si_InvalidCounts (fun vs H Q E h => by obtain ⟨a, y, rfl, _⟩ := h; rfl) fun cdv A outer s H vs Q E hr h => ⟨_, pss_cons (ps_expr (pe_oinit rfl T.c_InplaceError T.ba (pa_cons (pv 0) (pa_cons pe_str pa_nil)))) (pss_one (ps_ostX (pv 0) (pv 1))), ?_⟩
  obtain ⟨a, y, rfl, ha, k⟩ := h
  exact ⟨_, rfl, a, _, _, rfl, by decide, O, ha, _, rfl, _, rfl, a, _, rfl, O, T.xt.no 14 "arm" (by decide) (by decide), ha, k⟩
theorem mk_InvalidCounts (T : Txt K mg fd fi) : MkC P w K mg base (ct.ca K 14) (He.ma K (He.ga K "InvalidCounts") "__init__") 1 (fi 14) ["self", "arm"] (spX (ct.ca K 14) "arm") := ⟨T.xt.ox 14 (by decide), T.i_InvalidCounts.iC, T.i_InvalidCounts.tI, in_InvalidCounts T, T.i_InvalidCounts.b⟩
theorem bk_InvalidCounts (T : Txt K mg fd fi) (s : Shared) (u w : Value) : BindsTo s (fi 14) ⟨[u], [("arm", w)]⟩ [("self", u), ("arm", w)] := by
  obtain ⟨q, F⟩ := T.i_InvalidCounts.fu
  obtain ⟨oc, od, kV, doc, pm, an, cdv, ct, osl, e, _, _⟩ := F.ex
  rw [e]
  exact .of_eq rfl
theorem si_InvalidModule : FnScope ["self", "index"] ["self", "index"] (defScope (clsM (top 11) 0)) := ⟨rfl, rfl, rfl, by decide +kernel, rfl, by decide +kernel, by decide +kernel⟩
theorem in_InvalidModule (T : Txt K mg fd fi) : FnOk P w K mg base CX0 1 (He.ma K (He.ga K "InvalidModule") "__init__") (fi 10) ["self", "index"] (spX (ct.ca K 10) "index") := by
  have O : OexC K (ct.ca K 10) := T.xt.ox 10 (by decide)
  obtain ⟨q, F⟩ := T.i_InvalidModule.fu
  refine F.ok si_InvalidModule (fun vs H Q E h => by obtain ⟨a, y, rfl, _⟩ := h; rfl) fun cdv A outer s H vs Q E hr h => ⟨_, pss_cons (ps_expr (pe_oinit rfl T.c_InplaceError T.ba (pa_cons (pv 0) (pa_cons pe_str pa_nil)))) (pss_one (ps_ostX (pv 0) (pv 1))), ?_⟩
  obtain ⟨a, y, rfl, ha, k⟩ := h
  exact ⟨_, rfl, a, _, _, rfl, by decide, O, ha, _, rfl, _, rfl, a, _, rfl, O, T.xt.no 10 "index" (by decide) (by decide), ha, k⟩
theorem mk_InvalidModule (T : Txt K mg fd fi) : MkC P w K mg base (ct.ca K 10) (He.ma K (He.ga K "InvalidModule") "__init__") 1 (fi 10) ["self", "index"] (spX (ct.ca K 10) "index") := ⟨T.xt.ox 10 (by decide), T.i_InvalidModule.iC, T.i_InvalidModule.tI, in_InvalidModule T, T.i_InvalidModule.b⟩
theorem bk_InvalidModule (T : Txt K mg fd fi) (s : Shared) (u w : Value) : BindsTo s (fi 10) ⟨[u], [("index", w)]⟩ [("self", u), ("index", w)] := by
  obtain ⟨q, F⟩ := T.i_InvalidModule.fu
  obtain ⟨oc, od, kV, doc, pm, an, cdv, ct, osl, e, _, _⟩ := F.ex
  rw [e]
  exact .of_eq rfl
theorem si_InvalidOrder : FnScope ["self", "index"] ["self", "index"] (defScope (clsM (top 6) 0)) := ⟨rfl, rfl, rfl, by decide +kernel, rfl, by decide +kernel, by decide +kernel⟩
theorem in_InvalidOrder (T : Txt K mg fd fi) : FnOk P w K mg base CX0 1 (He.ma K (He.ga K "InvalidOrder") "__init__") (fi 5) ["self", "index"] (spX (ct.ca K 5) "index") := by
  have O : OexC K (ct.ca K 5) := T.xt.ox 5 (by decide)
  obtain ⟨q, F⟩ := T.i_InvalidOrder.fu
  refine F.ok si_InvalidOrder (fun vs H Q E h => by obtain ⟨a, y, rfl, _⟩ := h; rfl) fun cdv A outer s H vs Q E hr h => ⟨_, pss_cons (ps_expr (pe_oinit rfl T.c_InplaceError T.ba (pa_cons (pv 0) (pa_cons pe_str pa_nil)))) (pss_one (ps_ostX (pv 0) (pv 1))), ?_⟩
  obtain ⟨a, y, rfl, ha, k⟩ := h
  exact ⟨_, rfl, a, _, _, rfl, by decide, O, ha, _, rfl, _, rfl, a, _, rfl, O, T.xt.no 5 "index" (by decide) (by decide), ha, k⟩
theorem mk_InvalidOrder (T : Txt K mg fd fi) : MkC P w K mg base (ct.ca K 5) (He.ma K (He.ga K "InvalidOrder") "__init__") 1 (fi 5) ["self", "index"] (spX (ct.ca K 5) "index") := ⟨T.xt.ox 5 (by decide), T.i_InvalidOrder.iC, T.i_InvalidOrder.tI, in_InvalidOrder T, T.i_InvalidOrder.b⟩
theorem bk_InvalidOrder (T : Txt K mg fd fi) (s : Shared) (u w : Value) : BindsTo s (fi 5) ⟨[u], [("index", w)]⟩ [("self", u), ("index", w)] := by
  obtain ⟨q, F⟩ := T.i_InvalidOrder.fu
  obtain ⟨oc, od, kV, doc, pm, an, cdv, ct, osl, e, _, _⟩ := F.ex
  rw [e]
  exact .of_eq rfl
theorem si_InvalidPlan : FnScope ["self", "index"] ["self", "index"] (defScope (clsM (top 7) 0)) := ⟨rfl, rfl, rfl, by decide +kernel, rfl, by decide +kernel, by decide +kernel⟩
theorem in_InvalidPlan (T : Txt K mg fd fi) : FnOk P w K mg base CX0 1 (He.ma K (He.ga K "InvalidPlan") "__init__") (fi 6) ["self", "index"] (spX (ct.ca K 6) "index") := by
  have O : OexC K (ct.ca K 6) := T.xt.ox 6 (by decide)
  obtain ⟨q, F⟩ := T.i_InvalidPlan.fu
  refine F.ok si_InvalidPlan (fun vs H Q E h => by obtain ⟨a, y, rfl, _⟩ := h; rfl) fun cdv A outer s H vs Q E hr h => ⟨_, pss_cons (ps_expr (pe_oinit rfl T.c_InplaceError T.ba (pa_cons (pv 0) (pa_cons pe_str pa_nil)))) (pss_one (ps_ostX (pv 0) (pv 1))), ?_⟩
  obtain ⟨a, y, rfl, ha, k⟩ := h
  exact ⟨_, rfl, a, _, _, rfl, by decide, O, ha, _, rfl, _, rfl, a, _, rfl, O, T.xt.no 6 "index" (by decide) (by decide), ha, k⟩
theorem mk_InvalidPlan (T : Txt K mg fd fi) : MkC P w K mg base (ct.ca K 6) (He.ma K (He.ga K "InvalidPlan") "__init__") 1 (fi 6) ["self", "index"] (spX (ct.ca K 6) "index") := ⟨T.xt.ox 6 (by decide), T.i_InvalidPlan.iC, T.i_InvalidPlan.tI, in_InvalidPlan T, T.i_InvalidPlan.b⟩
theorem bk_InvalidPlan (T : Txt K mg fd fi) (s : Shared) (u w : Value) : BindsTo s (fi 6) ⟨[u], [("index", w)]⟩ [("self", u), ("index", w)] := by
  obtain ⟨q, F⟩ := T.i_InvalidPlan.fu
  obtain ⟨oc, od, kV, doc, pm, an, cdv, ct, osl, e, _, _⟩ := F.ex
  rw [e]
  exact .of_eq rfl
theorem si_InvalidProgram : FnScope ["self", "index"] ["self", "index"] (defScope (clsM (top 2) 0)) := ⟨rfl, rfl, rfl, by decide +kernel, rfl, by decide +kernel, by decide +kernel⟩
theorem in_InvalidProgram (T : Txt K mg fd fi) : FnOk P w K mg base CX0 1 (He.ma K (He.ga K "InvalidProgram") "__init__") (fi 1) ["self", "index"] (spX (ct.ca K 1) "index") := by
  have O : OexC K (ct.ca K 1) := T.xt.ox 1 (by decide)
  obtain ⟨q, F⟩ := T.i_InvalidProgram.fu
  refine F.ok si_InvalidProgram (fun vs H Q E h => by obtain ⟨a, y, rfl, _⟩ := h; rfl) fun cdv A outer s H vs Q E hr h => ⟨_, pss_cons (ps_expr (pe_oinit rfl T.c_InplaceError T.ba (pa_cons (pv 0) (pa_cons pe_str pa_nil)))) (pss_one (ps_ostX (pv 0) (pv 1))), ?_⟩
  obtain ⟨a, y, rfl, ha, k⟩ := h
  exact ⟨_, rfl, a, _, _, rfl, by decide, O, ha, _, rfl, _, rfl, a, _, rfl, O, T.xt.no 1 "index" (by decide) (by decide), ha, k⟩
theorem mk_InvalidProgram (T : Txt K mg fd fi) : MkC P w K mg base (ct.ca K 1) (He.ma K (He.ga K "InvalidProgram") "__init__") 1 (fi 1) ["self", "index"] (spX (ct.ca K 1) "index") := ⟨T.xt.ox 1 (by decide), T.i_InvalidProgram.iC, T.i_InvalidProgram.tI, in_InvalidProgram T, T.i_InvalidProgram.b⟩
theorem bk_InvalidProgram (T : Txt K mg fd fi) (s : Shared) (u w : Value) : BindsTo s (fi 1) ⟨[u], [("index", w)]⟩ [("self", u), ("index", w)] := by
  obtain ⟨q, F⟩ := T.i_InvalidProgram.fu
  obtain ⟨oc, od, kV, doc, pm, an, cdv, ct, osl, e, _, _⟩ := F.ex
  rw [e]
  exact .of_eq rfl
theorem si_InvalidSignature : FnScope ["self", "index"] ["self", "index"] (defScope (clsM (top 14) 0)) := ⟨rfl, rfl, rfl, by decide +kernel, rfl, by decide +kernel, by decide +kernel⟩
theorem in_InvalidSignature (T : Txt K mg fd fi) : FnOk P w K mg base CX0 1 (He.ma K (He.ga K "InvalidSignature") "__init__") (fi 13) ["self", "index"] (spX (ct.ca K 13) "index") := by
  have O : OexC K (ct.ca K 13) := T.xt.ox 13 (by decide)
  obtain ⟨q, F⟩ := T.i_InvalidSignature.fu
  refine F.ok si_InvalidSignature (fun vs H Q E h => by obtain ⟨a, y, rfl, _⟩ := h; rfl) fun cdv A outer s H vs Q E hr h => ⟨_, pss_cons (ps_expr (pe_oinit rfl T.c_InplaceError T.ba (pa_cons (pv 0) (pa_cons pe_str pa_nil)))) (pss_one (ps_ostX (pv 0) (pv 1))), ?_⟩
  obtain ⟨a, y, rfl, ha, k⟩ := h
  exact ⟨_, rfl, a, _, _, rfl, by decide, O, ha, _, rfl, _, rfl, a, _, rfl, O, T.xt.no 13 "index" (by decide) (by decide), ha, k⟩
theorem mk_InvalidSignature (T : Txt K mg fd fi) : MkC P w K mg base (ct.ca K 13) (He.ma K (He.ga K "InvalidSignature") "__init__") 1 (fi 13) ["self", "index"] (spX (ct.ca K 13) "index") := ⟨T.xt.ox 13 (by decide), T.i_InvalidSignature.iC, T.i_InvalidSignature.tI, in_InvalidSignature T, T.i_InvalidSignature.b⟩
theorem bk_InvalidSignature (T : Txt K mg fd fi) (s : Shared) (u w : Value) : BindsTo s (fi 13) ⟨[u], [("index", w)]⟩ [("self", u), ("index", w)] := by
  obtain ⟨q, F⟩ := T.i_InvalidSignature.fu
  obtain ⟨oc, od, kV, doc, pm, an, cdv, ct, osl, e, _, _⟩ := F.ex
  rw [e]
  exact .of_eq rfl
theorem si_InvalidSweep : FnScope ["self", "index"] ["self", "index"] (defScope (clsM (top 17) 0)) := ⟨rfl, rfl, rfl, by decide +kernel, rfl, by decide +kernel, by decide +kernel⟩
theorem in_InvalidSweep (T : Txt K mg fd fi) : FnOk P w K mg base CX0 1 (He.ma K (He.ga K "InvalidSweep") "__init__") (fi 16) ["self", "index"] (spX (ct.ca K 16) "index") := by
  have O : OexC K (ct.ca K 16) := T.xt.ox 16 (by decide)
  obtain ⟨q, F⟩ := T.i_InvalidSweep.fu
  refine F.ok si_InvalidSweep (fun vs H Q E h => by obtain ⟨a, y, rfl, _⟩ := h; rfl) fun cdv A outer s H vs Q E hr h => ⟨_, pss_cons (ps_expr (pe_oinit rfl T.c_InplaceError T.ba (pa_cons (pv 0) (pa_cons pe_str pa_nil)))) (pss_one (ps_ostX (pv 0) (pv 1))), ?_⟩
  obtain ⟨a, y, rfl, ha, k⟩ := h
  exact ⟨_, rfl, a, _, _, rfl, by decide, O, ha, _, rfl, _, rfl, a, _, rfl, O, T.xt.no 16 "index" (by decide) (by decide), ha, k⟩
theorem mk_InvalidSweep (T : Txt K mg fd fi) : MkC P w K mg base (ct.ca K 16) (He.ma K (He.ga K "InvalidSweep") "__init__") 1 (fi 16) ["self", "index"] (spX (ct.ca K 16) "index") := ⟨T.xt.ox 16 (by decide), T.i_InvalidSweep.iC, T.i_InvalidSweep.tI, in_InvalidSweep T, T.i_InvalidSweep.b⟩
theorem bk_InvalidSweep (T : Txt K mg fd fi) (s : Shared) (u w : Value) : BindsTo s (fi 16) ⟨[u], [("index", w)]⟩ [("self", u), ("index", w)] := by
  obtain ⟨q, F⟩ := T.i_InvalidSweep.fu
  obtain ⟨oc, od, kV, doc, pm, an, cdv, ct, osl, e, _, _⟩ := F.ex
  rw [e]
  exact .of_eq rfl
theorem si_InvalidText : FnScope ["self", "line"] ["self", "line"] (defScope (clsM (top 18) 0)) := ⟨rfl, rfl, rfl, by decide +kernel, rfl, by decide +kernel, by decide +kernel⟩
theorem in_InvalidText (T : Txt K mg fd fi) : FnOk P w K mg base CX0 1 (He.ma K (He.ga K "InvalidText") "__init__") (fi 17) ["self", "line"] (spX (ct.ca K 17) "line") := by
  have O : OexC K (ct.ca K 17) := T.xt.ox 17 (by decide)
  obtain ⟨q, F⟩ := T.i_InvalidText.fu
  refine F.ok si_InvalidText (fun vs H Q E h => by obtain ⟨a, y, rfl, _⟩ := h; rfl) fun cdv A outer s H vs Q E hr h => ⟨_, pss_cons (ps_expr (pe_oinit rfl T.c_InplaceError T.ba (pa_cons (pv 0) (pa_cons pe_str pa_nil)))) (pss_one (ps_ostX (pv 0) (pv 1))), ?_⟩
  obtain ⟨a, y, rfl, ha, k⟩ := h
  exact ⟨_, rfl, a, _, _, rfl, by decide, O, ha, _, rfl, _, rfl, a, _, rfl, O, T.xt.no 17 "line" (by decide) (by decide), ha, k⟩
theorem mk_InvalidText (T : Txt K mg fd fi) : MkC P w K mg base (ct.ca K 17) (He.ma K (He.ga K "InvalidText") "__init__") 1 (fi 17) ["self", "line"] (spX (ct.ca K 17) "line") := ⟨T.xt.ox 17 (by decide), T.i_InvalidText.iC, T.i_InvalidText.tI, in_InvalidText T, T.i_InvalidText.b⟩
theorem bk_InvalidText (T : Txt K mg fd fi) (s : Shared) (u w : Value) : BindsTo s (fi 17) ⟨[u], [("line", w)]⟩ [("self", u), ("line", w)] := by
  obtain ⟨q, F⟩ := T.i_InvalidText.fu
  obtain ⟨oc, od, kV, doc, pm, an, cdv, ct, osl, e, _, _⟩ := F.ex
  rw [e]
  exact .of_eq rfl
theorem si_InvalidTree : FnScope ["self"] ["self"] (defScope (clsM (top 16) 0)) := ⟨rfl, rfl, rfl, by decide +kernel, rfl, by decide +kernel, by decide +kernel⟩
theorem in_InvalidTree (T : Txt K mg fd fi) : FnOk P w K mg base CX0 1 (He.ma K (He.ga K "InvalidTree") "__init__") (fi 15) ["self"] (spX0 (ct.ca K 15)) := by
  have O : OexC K (ct.ca K 15) := T.xt.ox 15 (by decide)
  obtain ⟨q, F⟩ := T.i_InvalidTree.fu
  refine F.ok si_InvalidTree (fun vs H Q E h => by obtain ⟨a, rfl, _⟩ := h; rfl) fun cdv A outer s H vs Q E hr h => ⟨_, pss_one (ps_expr (pe_oinit rfl T.c_InplaceError T.ba (pa_cons (pv 0) (pa_cons pe_str pa_nil)))), ?_⟩
  obtain ⟨a, rfl, ha, k⟩ := h
  exact ⟨_, rfl, a, _, _, rfl, by decide, O, ha, k⟩
theorem mk_InvalidTree (T : Txt K mg fd fi) : MkC P w K mg base (ct.ca K 15) (He.ma K (He.ga K "InvalidTree") "__init__") 1 (fi 15) ["self"] (spX0 (ct.ca K 15)) := ⟨T.xt.ox 15 (by decide), T.i_InvalidTree.iC, T.i_InvalidTree.tI, in_InvalidTree T, T.i_InvalidTree.b⟩
theorem si_UnknownArm : FnScope ["self", "index"] ["self", "index"] (defScope (clsM (top 13) 0)) := ⟨rfl, rfl, rfl, by decide +kernel, rfl, by decide +kernel, by decide +kernel⟩
theorem in_UnknownArm (T : Txt K mg fd fi) : FnOk P w K mg base CX0 1 (He.ma K (He.ga K "UnknownArm") "__init__") (fi 12) ["self", "index"] (spX (ct.ca K 12) "index") := by
  have O : OexC K (ct.ca K 12) := T.xt.ox 12 (by decide)
  obtain ⟨q, F⟩ := T.i_UnknownArm.fu
  refine F.ok si_UnknownArm (fun vs H Q E h => by obtain ⟨a, y, rfl, _⟩ := h; rfl) fun cdv A outer s H vs Q E hr h => ⟨_, pss_cons (ps_expr (pe_oinit rfl T.c_InplaceError T.ba (pa_cons (pv 0) (pa_cons pe_str pa_nil)))) (pss_one (ps_ostX (pv 0) (pv 1))), ?_⟩
  obtain ⟨a, y, rfl, ha, k⟩ := h
  exact ⟨_, rfl, a, _, _, rfl, by decide, O, ha, _, rfl, _, rfl, a, _, rfl, O, T.xt.no 12 "index" (by decide) (by decide), ha, k⟩
theorem mk_UnknownArm (T : Txt K mg fd fi) : MkC P w K mg base (ct.ca K 12) (He.ma K (He.ga K "UnknownArm") "__init__") 1 (fi 12) ["self", "index"] (spX (ct.ca K 12) "index") := ⟨T.xt.ox 12 (by decide), T.i_UnknownArm.iC, T.i_UnknownArm.tI, in_UnknownArm T, T.i_UnknownArm.b⟩
theorem bk_UnknownArm (T : Txt K mg fd fi) (s : Shared) (u w : Value) : BindsTo s (fi 12) ⟨[u], [("index", w)]⟩ [("self", u), ("index", w)] := by
  obtain ⟨q, F⟩ := T.i_UnknownArm.fu
  obtain ⟨oc, od, kV, doc, pm, an, cdv, ct, osl, e, _, _⟩ := F.ex
  rw [e]
  exact .of_eq rfl
theorem si_UnknownFunction : FnScope ["self", "name"] ["self", "name"] (defScope (clsM (top 12) 0)) := ⟨rfl, rfl, rfl, by decide +kernel, rfl, by decide +kernel, by decide +kernel⟩
theorem in_UnknownFunction (T : Txt K mg fd fi) : FnOk P w K mg base CX0 1 (He.ma K (He.ga K "UnknownFunction") "__init__") (fi 11) ["self", "name"] (spX (ct.ca K 11) "name") := by
  have O : OexC K (ct.ca K 11) := T.xt.ox 11 (by decide)
  obtain ⟨q, F⟩ := T.i_UnknownFunction.fu
  refine F.ok si_UnknownFunction (fun vs H Q E h => by obtain ⟨a, y, rfl, _⟩ := h; rfl) fun cdv A outer s H vs Q E hr h => ⟨_, pss_cons (ps_expr (pe_oinit rfl T.c_InplaceError T.ba (pa_cons (pv 0) (pa_cons pe_str pa_nil)))) (pss_one (ps_ostX (pv 0) (pv 1))), ?_⟩
  obtain ⟨a, y, rfl, ha, k⟩ := h
  exact ⟨_, rfl, a, _, _, rfl, by decide, O, ha, _, rfl, _, rfl, a, _, rfl, O, T.xt.no 11 "name" (by decide) (by decide), ha, k⟩
theorem mk_UnknownFunction (T : Txt K mg fd fi) : MkC P w K mg base (ct.ca K 11) (He.ma K (He.ga K "UnknownFunction") "__init__") 1 (fi 11) ["self", "name"] (spX (ct.ca K 11) "name") := ⟨T.xt.ox 11 (by decide), T.i_UnknownFunction.iC, T.i_UnknownFunction.tI, in_UnknownFunction T, T.i_UnknownFunction.b⟩
theorem bk_UnknownFunction (T : Txt K mg fd fi) (s : Shared) (u w : Value) : BindsTo s (fi 11) ⟨[u], [("name", w)]⟩ [("self", u), ("name", w)] := by
  obtain ⟨q, F⟩ := T.i_UnknownFunction.fu
  obtain ⟨oc, od, kV, doc, pm, an, cdv, ct, osl, e, _, _⟩ := F.ex
  rw [e]
  exact .of_eq rfl
theorem si_UnknownStatement : FnScope ["self", "name"] ["self", "name"] (defScope (clsM (top 4) 0)) := ⟨rfl, rfl, rfl, by decide +kernel, rfl, by decide +kernel, by decide +kernel⟩
theorem in_UnknownStatement (T : Txt K mg fd fi) : FnOk P w K mg base CX0 1 (He.ma K (He.ga K "UnknownStatement") "__init__") (fi 3) ["self", "name"] (spX (ct.ca K 3) "name") := by
  have O : OexC K (ct.ca K 3) := T.xt.ox 3 (by decide)
  obtain ⟨q, F⟩ := T.i_UnknownStatement.fu
  refine F.ok si_UnknownStatement (fun vs H Q E h => by obtain ⟨a, y, rfl, _⟩ := h; rfl) fun cdv A outer s H vs Q E hr h => ⟨_, pss_cons (ps_expr (pe_oinit rfl T.c_InplaceError T.ba (pa_cons (pv 0) (pa_cons pe_str pa_nil)))) (pss_one (ps_ostX (pv 0) (pv 1))), ?_⟩
  obtain ⟨a, y, rfl, ha, k⟩ := h
  exact ⟨_, rfl, a, _, _, rfl, by decide, O, ha, _, rfl, _, rfl, a, _, rfl, O, T.xt.no 3 "name" (by decide) (by decide), ha, k⟩
theorem mk_UnknownStatement (T : Txt K mg fd fi) : MkC P w K mg base (ct.ca K 3) (He.ma K (He.ga K "UnknownStatement") "__init__") 1 (fi 3) ["self", "name"] (spX (ct.ca K 3) "name") := ⟨T.xt.ox 3 (by decide), T.i_UnknownStatement.iC, T.i_UnknownStatement.tI, in_UnknownStatement T, T.i_UnknownStatement.b⟩
theorem bk_UnknownStatement (T : Txt K mg fd fi) (s : Shared) (u w : Value) : BindsTo s (fi 3) ⟨[u], [("name", w)]⟩ [("self", u), ("name", w)] := by
  obtain ⟨q, F⟩ := T.i_UnknownStatement.fu
  obtain ⟨oc, od, kV, doc, pm, an, cdv, ct, osl, e, _, _⟩ := F.ex
  rw [e]
  exact .of_eq rfl
theorem si_UnknownValue : FnScope ["self", "name"] ["self", "name"] (defScope (clsM (top 3) 0)) := ⟨rfl, rfl, rfl, by decide +kernel, rfl, by decide +kernel, by decide +kernel⟩
theorem in_UnknownValue (T : Txt K mg fd fi) : FnOk P w K mg base CX0 1 (He.ma K (He.ga K "UnknownValue") "__init__") (fi 2) ["self", "name"] (spX (ct.ca K 2) "name") := by
  have O : OexC K (ct.ca K 2) := T.xt.ox 2 (by decide)
  obtain ⟨q, F⟩ := T.i_UnknownValue.fu
  refine F.ok si_UnknownValue (fun vs H Q E h => by obtain ⟨a, y, rfl, _⟩ := h; rfl) fun cdv A outer s H vs Q E hr h => ⟨_, pss_cons (ps_expr (pe_oinit rfl T.c_InplaceError T.ba (pa_cons (pv 0) (pa_cons pe_str pa_nil)))) (pss_one (ps_ostX (pv 0) (pv 1))), ?_⟩
  obtain ⟨a, y, rfl, ha, k⟩ := h
  exact ⟨_, rfl, a, _, _, rfl, by decide, O, ha, _, rfl, _, rfl, a, _, rfl, O, T.xt.no 2 "name" (by decide) (by decide), ha, k⟩
theorem mk_UnknownValue (T : Txt K mg fd fi) : MkC P w K mg base (ct.ca K 2) (He.ma K (He.ga K "UnknownValue") "__init__") 1 (fi 2) ["self", "name"] (spX (ct.ca K 2) "name") := ⟨T.xt.ox 2 (by decide), T.i_UnknownValue.iC, T.i_UnknownValue.tI, in_UnknownValue T, T.i_UnknownValue.b⟩
theorem bk_UnknownValue (T : Txt K mg fd fi) (s : Shared) (u w : Value) : BindsTo s (fi 2) ⟨[u], [("name", w)]⟩ [("self", u), ("name", w)] := by
  obtain ⟨q, F⟩ := T.i_UnknownValue.fu
  obtain ⟨oc, od, kV, doc, pm, an, cdv, ct, osl, e, _, _⟩ := F.ex
  rw [e]
  exact .of_eq rfl
def T0 : Nat → Fn := fun _ _ => .ret .no
def F__law_take : Fn := drawF
def T1 : Nat → Fn := fun j => if j = 1 then F__law_take else T0 j
abbrev ir__law_begin : Ss :=
      (.cons (.ret (.lst (.cons (.or (.lc [("_law_cell", 1)] [1] .seq (.cons (.b (.slc false true) (.cons (.v 0) (.cons (.c (.int 63)) .nil))) .nil) .nil (.b .abs (.cons (.v 1) .nil))) (.lst (.cons (.c (.int 7)) .nil))) (.cons (.c (.int 0)) (.cons (.c (.int 1)) (.cons (.c (.int 0)) .nil))))))
      .nil)
def F__law_begin : Fn := fnOf ct.sub T1 n__law_begin.length ir__law_begin
theorem ok__law_begin (T : Txt K mg fd fi) (N : Blt mg)  : FnG P w K mg base 1 (He.ga K "_law_begin") (fd 0) p__law_begin (fsp (ok K tl) 1 F__law_begin) := fnG_of (k := 0) T.f__law_begin.fu sc__law_begin rfl fun cdv A outer s H E R hR C hr tk =>
      (jss_cons (js_ret (je_lst (ja_cons (je_or (jb_or (lc_val C (ji_seq (je_slc_ft je_v je_int)) (fun _ _ _ _ _ C => (jg_name C)) (fun _ _ _ _ _ C => jts_nil) (fun _ _ _ _ _ C => (je_abs rfl N.abs (ja_cons je_v ja_nil)))) (jb_or1 (je_lst (ja_cons je_int ja_nil))))) (ja_cons je_int (ja_cons je_int (ja_cons je_int ja_nil))))))
      jss_nil)
def T2 : Nat → Fn := fun j => if j = 0 then F__law_begin else T1 j
abbrev ir__law_pick : Ss :=
      (.cons (.ret (.b .idx (.cons (.v 1) (.cons (.f 1 (.cons (.v 0) (.cons (.b .len (.cons (.v 1) .nil)) .nil)) [] [0, 1]) .nil))))
      .nil)
def F__law_pick : Fn := fnOf ct.sub T2 n__law_pick.length ir__law_pick
theorem t2_1 : T2 1 = F__law_take := by simp [T0, T1, T2]
theorem ok__law_pick (T : Txt K mg fd fi) (N : Blt mg) (g__law_take : FnG P w K mg base 1 (He.ga K "_law_take") (fd 1) p__law_take (fsp (ok K tl) 2 F__law_take)) : FnG P w K mg base 2 (He.ga K "_law_pick") (fd 2) p__law_pick (fsp (ok K tl) 2 F__law_pick) := fnG_of (k := 1) T.f__law_pick.fu sc__law_pick rfl fun cdv A outer s H E R hR C hr tk =>
      (jss_cons (js_ret (je_idx je_v (je_call C g__law_take t2_1 hR tk (hr.mono (by decide)) rfl T.f__law_take.m T.f__law_take.fu.kp T.f__law_take.b (ja_cons je_v (ja_cons (je_len rfl N.len (ja_cons je_v ja_nil)) ja_nil)))))
      jss_nil)
def T3 : Nat → Fn := fun j => if j = 2 then F__law_pick else T2 j
abbrev ir__law_marks : Ss :=
      (.cons (.asg 1 (.lst (.cons (.b (.isx (.cls 1)) (.cons (.v 0) .nil)) (.cons (.b (.isx (.cls 2)) (.cons (.v 0) .nil)) (.cons (.b (.isx (.cls 3)) (.cons (.v 0) .nil)) .nil)))))
      (.cons (.asg 1 (.b .add (.cons (.v 1) (.cons (.lst (.cons (.b (.isx (.cls 4)) (.cons (.v 0) .nil)) (.cons (.b (.isx (.cls 5)) (.cons (.v 0) .nil)) (.cons (.b (.isx (.cls 6)) (.cons (.v 0) .nil)) .nil)))) .nil))))
      (.cons (.asg 1 (.b .add (.cons (.v 1) (.cons (.lst (.cons (.b (.isx (.cls 7)) (.cons (.v 0) .nil)) (.cons (.b (.isx (.cls 8)) (.cons (.v 0) .nil)) (.cons (.b (.isx (.cls 9)) (.cons (.v 0) .nil)) .nil)))) .nil))))
      (.cons (.asg 1 (.b .add (.cons (.v 1) (.cons (.lst (.cons (.b (.isx (.cls 10)) (.cons (.v 0) .nil)) (.cons (.b (.isx (.cls 11)) (.cons (.v 0) .nil)) .nil))) .nil))))
      (.cons (.ex (.mu .append 1 (.cons (.b (.isx (.cls 12)) (.cons (.v 0) .nil)) .nil)))
      (.cons (.asg 1 (.b .add (.cons (.v 1) (.cons (.lst (.cons (.b (.isx (.cls 13)) (.cons (.v 0) .nil)) (.cons (.b (.isx (.cls 14)) (.cons (.v 0) .nil)) .nil))) .nil))))
      (.cons (.asg 1 (.b .add (.cons (.v 1) (.cons (.lst (.cons (.b (.isx (.cls 15)) (.cons (.v 0) .nil)) (.cons (.b (.isx (.cls 16)) (.cons (.v 0) .nil)) (.cons (.b (.isx (.cls 17)) (.cons (.v 0) .nil)) .nil)))) .nil))))
      (.cons (.ret (.v 1))
      .nil))))))))
def F__law_marks : Fn := fnOf ct.sub T3 n__law_marks.length ir__law_marks
theorem ok__law_marks (T : Txt K mg fd fi) (N : Blt mg)  : FnG P w K mg base 1 (He.ga K "_law_marks") (fd 3) p__law_marks (fsp (ok K tl) 1 F__law_marks) := fnG_of (k := 0) T.f__law_marks.fu sc__law_marks rfl fun cdv A outer s H E R hR C hr tk =>
      (jss_cons (js_asg C (je_lst (ja_cons (je_isx (t := (.cls 1)) (hR.xt T.xt) rfl N.isinstance je_v (jc_cls (k := 1) (congrFun hR.ca 1) T.c_InvalidProgram rfl)) (ja_cons (je_isx (t := (.cls 2)) (hR.xt T.xt) rfl N.isinstance je_v (jc_cls (k := 2) (congrFun hR.ca 2) T.c_UnknownValue rfl)) (ja_cons (je_isx (t := (.cls 3)) (hR.xt T.xt) rfl N.isinstance je_v (jc_cls (k := 3) (congrFun hR.ca 3) T.c_UnknownStatement rfl)) ja_nil)))))
      (jss_cons (js_asg C (je_add je_v (je_lst (ja_cons (je_isx (t := (.cls 4)) (hR.xt T.xt) rfl N.isinstance je_v (jc_cls (k := 4) (congrFun hR.ca 4) T.c_InvalidCell rfl)) (ja_cons (je_isx (t := (.cls 5)) (hR.xt T.xt) rfl N.isinstance je_v (jc_cls (k := 5) (congrFun hR.ca 5) T.c_InvalidOrder rfl)) (ja_cons (je_isx (t := (.cls 6)) (hR.xt T.xt) rfl N.isinstance je_v (jc_cls (k := 6) (congrFun hR.ca 6) T.c_InvalidPlan rfl)) ja_nil))))))
      (jss_cons (js_asg C (je_add je_v (je_lst (ja_cons (je_isx (t := (.cls 7)) (hR.xt T.xt) rfl N.isinstance je_v (jc_cls (k := 7) (congrFun hR.ca 7) T.c_InvalidChain rfl)) (ja_cons (je_isx (t := (.cls 8)) (hR.xt T.xt) rfl N.isinstance je_v (jc_cls (k := 8) (congrFun hR.ca 8) T.c_HasCycle rfl)) (ja_cons (je_isx (t := (.cls 9)) (hR.xt T.xt) rfl N.isinstance je_v (jc_cls (k := 9) (congrFun hR.ca 9) T.c_InvalidAssignment rfl)) ja_nil))))))
      (jss_cons (js_asg C (je_add je_v (je_lst (ja_cons (je_isx (t := (.cls 10)) (hR.xt T.xt) rfl N.isinstance je_v (jc_cls (k := 10) (congrFun hR.ca 10) T.c_InvalidModule rfl)) (ja_cons (je_isx (t := (.cls 11)) (hR.xt T.xt) rfl N.isinstance je_v (jc_cls (k := 11) (congrFun hR.ca 11) T.c_UnknownFunction rfl)) ja_nil)))))
      (jss_cons (js_ex (je_append (pv 1) (ja_cons (je_isx (t := (.cls 12)) (hR.xt T.xt) rfl N.isinstance je_v (jc_cls (k := 12) (congrFun hR.ca 12) T.c_UnknownArm rfl)) ja_nil)))
      (jss_cons (js_asg C (je_add je_v (je_lst (ja_cons (je_isx (t := (.cls 13)) (hR.xt T.xt) rfl N.isinstance je_v (jc_cls (k := 13) (congrFun hR.ca 13) T.c_InvalidSignature rfl)) (ja_cons (je_isx (t := (.cls 14)) (hR.xt T.xt) rfl N.isinstance je_v (jc_cls (k := 14) (congrFun hR.ca 14) T.c_InvalidCounts rfl)) ja_nil)))))
      (jss_cons (js_asg C (je_add je_v (je_lst (ja_cons (je_isx (t := (.cls 15)) (hR.xt T.xt) rfl N.isinstance je_v (jc_cls (k := 15) (congrFun hR.ca 15) T.c_InvalidTree rfl)) (ja_cons (je_isx (t := (.cls 16)) (hR.xt T.xt) rfl N.isinstance je_v (jc_cls (k := 16) (congrFun hR.ca 16) T.c_InvalidSweep rfl)) (ja_cons (je_isx (t := (.cls 17)) (hR.xt T.xt) rfl N.isinstance je_v (jc_cls (k := 17) (congrFun hR.ca 17) T.c_InvalidText rfl)) ja_nil))))))
      (jss_cons (js_ret je_v)
      jss_nil))))))))
def T4 : Nat → Fn := fun j => if j = 3 then F__law_marks else T3 j
abbrev ir__law_pairs : Ss :=
      (.cons (.asg 1 (.lst (.cons (.tup (.cons (.mk 1 (.cons (.v 0) .nil)) (.cons (.mk 1 (.cons (.v 0) .nil)) .nil))) (.cons (.tup (.cons (.mk 2 (.cons (.v 0) .nil)) (.cons (.mk 2 (.cons (.v 0) .nil)) .nil))) .nil))))
      (.cons (.asg 1 (.b .add (.cons (.v 1) (.cons (.lst (.cons (.tup (.cons (.mk 3 (.cons (.v 0) .nil)) (.cons (.mk 3 (.cons (.v 0) .nil)) .nil))) .nil)) .nil))))
      (.cons (.asg 1 (.b .add (.cons (.v 1) (.cons (.lst (.cons (.tup (.cons (.mk 4 (.cons (.v 0) .nil)) (.cons (.mk 4 (.cons (.v 0) .nil)) .nil))) .nil)) .nil))))
      (.cons (.asg 1 (.b .add (.cons (.v 1) (.cons (.lst (.cons (.tup (.cons (.mk 5 (.cons (.v 0) .nil)) (.cons (.mk 5 (.cons (.v 0) .nil)) .nil))) (.cons (.tup (.cons (.mk 6 (.cons (.v 0) .nil)) (.cons (.mk 6 (.cons (.v 0) .nil)) .nil))) .nil))) .nil))))
      (.cons (.asg 1 (.b .add (.cons (.v 1) (.cons (.lst (.cons (.tup (.cons (.mk 7 (.cons (.v 0) .nil)) (.cons (.mk 7 (.cons (.v 0) .nil)) .nil))) (.cons (.tup (.cons (.mk 8 (.cons (.v 0) .nil)) (.cons (.mk 8 (.cons (.v 0) .nil)) .nil))) .nil))) .nil))))
      (.cons (.asg 1 (.b .add (.cons (.v 1) (.cons (.lst (.cons (.tup (.cons (.mk 9 (.cons (.v 0) .nil)) (.cons (.mk 9 (.cons (.v 0) .nil)) .nil))) .nil)) .nil))))
      (.cons (.asg 1 (.b .add (.cons (.v 1) (.cons (.lst (.cons (.tup (.cons (.mk 10 (.cons (.v 0) .nil)) (.cons (.mk 10 (.cons (.v 0) .nil)) .nil))) .nil)) .nil))))
      (.cons (.asg 1 (.b .add (.cons (.v 1) (.cons (.lst (.cons (.tup (.cons (.mk 11 (.cons (.v 0) .nil)) (.cons (.mk 11 (.cons (.v 0) .nil)) .nil))) (.cons (.tup (.cons (.mk 12 (.cons (.v 0) .nil)) (.cons (.mk 12 (.cons (.v 0) .nil)) .nil))) .nil))) .nil))))
      (.cons (.asg 1 (.b .add (.cons (.v 1) (.cons (.lst (.cons (.tup (.cons (.mk 13 (.cons (.v 0) .nil)) (.cons (.mk 13 (.cons (.v 0) .nil)) .nil))) .nil)) .nil))))
      (.cons (.asg 1 (.b .add (.cons (.v 1) (.cons (.lst (.cons (.tup (.cons (.mk 14 (.cons (.v 0) .nil)) (.cons (.mk 14 (.cons (.v 0) .nil)) .nil))) (.cons (.tup (.cons (.mk 15 .nil) (.cons (.mk 15 .nil) .nil))) .nil))) .nil))))
      (.cons (.ret (.b .add (.cons (.v 1) (.cons (.lst (.cons (.tup (.cons (.mk 16 (.cons (.v 0) .nil)) (.cons (.mk 16 (.cons (.v 0) .nil)) .nil))) (.cons (.tup (.cons (.mk 17 (.cons (.v 0) .nil)) (.cons (.mk 17 (.cons (.v 0) .nil)) .nil))) .nil))) .nil))))
      .nil)))))))))))
def F__law_pairs : Fn := fnOf ct.sub T4 n__law_pairs.length ir__law_pairs
theorem ok__law_pairs (T : Txt K mg fd fi) (N : Blt mg)  : FnG P w K mg base 3 (He.ga K "_law_pairs") (fd 4) p__law_pairs (fsp (ok K tl) 1 F__law_pairs) := fnG_of (k := 2) T.f__law_pairs.fu sc__law_pairs rfl fun cdv A outer s H E R hR C hr tk =>
      (jss_cons (js_asg C (je_lst (ja_cons (je_tup (ja_cons (je_mk1 (c := 1) (congrFun hR.ca 1) (congrFun hR.cf 1) (mk_InvalidProgram T) (hr.mono (by decide)) rfl T.c_InvalidProgram je_v) (ja_cons (je_mkk (c := 1) (congrFun hR.ca 1) (congrFun hR.cf 1) (mk_InvalidProgram T) (bk_InvalidProgram T) (hr.mono (by decide)) rfl T.c_InvalidProgram je_v) ja_nil))) (ja_cons (je_tup (ja_cons (je_mk1 (c := 2) (congrFun hR.ca 2) (congrFun hR.cf 2) (mk_UnknownValue T) (hr.mono (by decide)) rfl T.c_UnknownValue je_v) (ja_cons (je_mkk (c := 2) (congrFun hR.ca 2) (congrFun hR.cf 2) (mk_UnknownValue T) (bk_UnknownValue T) (hr.mono (by decide)) rfl T.c_UnknownValue je_v) ja_nil))) ja_nil))))
      (jss_cons (js_asg C (je_add je_v (je_lst (ja_cons (je_tup (ja_cons (je_mk1 (c := 3) (congrFun hR.ca 3) (congrFun hR.cf 3) (mk_UnknownStatement T) (hr.mono (by decide)) rfl T.c_UnknownStatement je_v) (ja_cons (je_mkk (c := 3) (congrFun hR.ca 3) (congrFun hR.cf 3) (mk_UnknownStatement T) (bk_UnknownStatement T) (hr.mono (by decide)) rfl T.c_UnknownStatement je_v) ja_nil))) ja_nil))))
      (jss_cons (js_asg C (je_add je_v (je_lst (ja_cons (je_tup (ja_cons (je_mk1 (c := 4) (congrFun hR.ca 4) (congrFun hR.cf 4) (mk_InvalidCell T) (hr.mono (by decide)) rfl T.c_InvalidCell je_v) (ja_cons (je_mkk (c := 4) (congrFun hR.ca 4) (congrFun hR.cf 4) (mk_InvalidCell T) (bk_InvalidCell T) (hr.mono (by decide)) rfl T.c_InvalidCell je_v) ja_nil))) ja_nil))))
      (jss_cons (js_asg C (je_add je_v (je_lst (ja_cons (je_tup (ja_cons (je_mk1 (c := 5) (congrFun hR.ca 5) (congrFun hR.cf 5) (mk_InvalidOrder T) (hr.mono (by decide)) rfl T.c_InvalidOrder je_v) (ja_cons (je_mkk (c := 5) (congrFun hR.ca 5) (congrFun hR.cf 5) (mk_InvalidOrder T) (bk_InvalidOrder T) (hr.mono (by decide)) rfl T.c_InvalidOrder je_v) ja_nil))) (ja_cons (je_tup (ja_cons (je_mk1 (c := 6) (congrFun hR.ca 6) (congrFun hR.cf 6) (mk_InvalidPlan T) (hr.mono (by decide)) rfl T.c_InvalidPlan je_v) (ja_cons (je_mkk (c := 6) (congrFun hR.ca 6) (congrFun hR.cf 6) (mk_InvalidPlan T) (bk_InvalidPlan T) (hr.mono (by decide)) rfl T.c_InvalidPlan je_v) ja_nil))) ja_nil)))))
      (jss_cons (js_asg C (je_add je_v (je_lst (ja_cons (je_tup (ja_cons (je_mk1 (c := 7) (congrFun hR.ca 7) (congrFun hR.cf 7) (mk_InvalidChain T) (hr.mono (by decide)) rfl T.c_InvalidChain je_v) (ja_cons (je_mkk (c := 7) (congrFun hR.ca 7) (congrFun hR.cf 7) (mk_InvalidChain T) (bk_InvalidChain T) (hr.mono (by decide)) rfl T.c_InvalidChain je_v) ja_nil))) (ja_cons (je_tup (ja_cons (je_mk1 (c := 8) (congrFun hR.ca 8) (congrFun hR.cf 8) (mk_HasCycle T) (hr.mono (by decide)) rfl T.c_HasCycle je_v) (ja_cons (je_mkk (c := 8) (congrFun hR.ca 8) (congrFun hR.cf 8) (mk_HasCycle T) (bk_HasCycle T) (hr.mono (by decide)) rfl T.c_HasCycle je_v) ja_nil))) ja_nil)))))
      (jss_cons (js_asg C (je_add je_v (je_lst (ja_cons (je_tup (ja_cons (je_mk1 (c := 9) (congrFun hR.ca 9) (congrFun hR.cf 9) (mk_InvalidAssignment T) (hr.mono (by decide)) rfl T.c_InvalidAssignment je_v) (ja_cons (je_mkk (c := 9) (congrFun hR.ca 9) (congrFun hR.cf 9) (mk_InvalidAssignment T) (bk_InvalidAssignment T) (hr.mono (by decide)) rfl T.c_InvalidAssignment je_v) ja_nil))) ja_nil))))
      (jss_cons (js_asg C (je_add je_v (je_lst (ja_cons (je_tup (ja_cons (je_mk1 (c := 10) (congrFun hR.ca 10) (congrFun hR.cf 10) (mk_InvalidModule T) (hr.mono (by decide)) rfl T.c_InvalidModule je_v) (ja_cons (je_mkk (c := 10) (congrFun hR.ca 10) (congrFun hR.cf 10) (mk_InvalidModule T) (bk_InvalidModule T) (hr.mono (by decide)) rfl T.c_InvalidModule je_v) ja_nil))) ja_nil))))
      (jss_cons (js_asg C (je_add je_v (je_lst (ja_cons (je_tup (ja_cons (je_mk1 (c := 11) (congrFun hR.ca 11) (congrFun hR.cf 11) (mk_UnknownFunction T) (hr.mono (by decide)) rfl T.c_UnknownFunction je_v) (ja_cons (je_mkk (c := 11) (congrFun hR.ca 11) (congrFun hR.cf 11) (mk_UnknownFunction T) (bk_UnknownFunction T) (hr.mono (by decide)) rfl T.c_UnknownFunction je_v) ja_nil))) (ja_cons (je_tup (ja_cons (je_mk1 (c := 12) (congrFun hR.ca 12) (congrFun hR.cf 12) (mk_UnknownArm T) (hr.mono (by decide)) rfl T.c_UnknownArm je_v) (ja_cons (je_mkk (c := 12) (congrFun hR.ca 12) (congrFun hR.cf 12) (mk_UnknownArm T) (bk_UnknownArm T) (hr.mono (by decide)) rfl T.c_UnknownArm je_v) ja_nil))) ja_nil)))))
      (jss_cons (js_asg C (je_add je_v (je_lst (ja_cons (je_tup (ja_cons (je_mk1 (c := 13) (congrFun hR.ca 13) (congrFun hR.cf 13) (mk_InvalidSignature T) (hr.mono (by decide)) rfl T.c_InvalidSignature je_v) (ja_cons (je_mkk (c := 13) (congrFun hR.ca 13) (congrFun hR.cf 13) (mk_InvalidSignature T) (bk_InvalidSignature T) (hr.mono (by decide)) rfl T.c_InvalidSignature je_v) ja_nil))) ja_nil))))
      (jss_cons (js_asg C (je_add je_v (je_lst (ja_cons (je_tup (ja_cons (je_mk1 (c := 14) (congrFun hR.ca 14) (congrFun hR.cf 14) (mk_InvalidCounts T) (hr.mono (by decide)) rfl T.c_InvalidCounts je_v) (ja_cons (je_mkk (c := 14) (congrFun hR.ca 14) (congrFun hR.cf 14) (mk_InvalidCounts T) (bk_InvalidCounts T) (hr.mono (by decide)) rfl T.c_InvalidCounts je_v) ja_nil))) (ja_cons (je_tup (ja_cons (je_mk0 (c := 15) (congrFun hR.ca 15) (congrFun hR.cf 15) (mk_InvalidTree T) (hr.mono (by decide)) rfl T.c_InvalidTree) (ja_cons (je_mk0 (c := 15) (congrFun hR.ca 15) (congrFun hR.cf 15) (mk_InvalidTree T) (hr.mono (by decide)) rfl T.c_InvalidTree) ja_nil))) ja_nil)))))
      (jss_cons (js_ret (je_add je_v (je_lst (ja_cons (je_tup (ja_cons (je_mk1 (c := 16) (congrFun hR.ca 16) (congrFun hR.cf 16) (mk_InvalidSweep T) (hr.mono (by decide)) rfl T.c_InvalidSweep je_v) (ja_cons (je_mkk (c := 16) (congrFun hR.ca 16) (congrFun hR.cf 16) (mk_InvalidSweep T) (bk_InvalidSweep T) (hr.mono (by decide)) rfl T.c_InvalidSweep je_v) ja_nil))) (ja_cons (je_tup (ja_cons (je_mk1 (c := 17) (congrFun hR.ca 17) (congrFun hR.cf 17) (mk_InvalidText T) (hr.mono (by decide)) rfl T.c_InvalidText je_v) (ja_cons (je_mkk (c := 17) (congrFun hR.ca 17) (congrFun hR.cf 17) (mk_InvalidText T) (bk_InvalidText T) (hr.mono (by decide)) rfl T.c_InvalidText je_v) ja_nil))) ja_nil)))))
      jss_nil)))))))))))
def T5 : Nat → Fn := fun j => if j = 4 then F__law_pairs else T4 j
abbrev ir__law_held : Ss :=
      (.cons (.ite (.b .inn (.cons (.v 1) (.cons (.tup (.cons (.c (.int 1)) (.cons (.c (.int 2)) (.cons (.c (.int 8)) (.cons (.c (.int 10)) .nil))))) .nil))) (.cons (.ret (.b (.att tbl_name) (.cons (.v 0) .nil)))
      .nil) .nil)
      (.cons (.ite (.b .eq (.cons (.v 1) (.cons (.c (.int 7)) .nil))) (.cons (.ret (.b (.att tbl_cycle) (.cons (.v 0) .nil)))
      .nil) .nil)
      (.cons (.ite (.b .eq (.cons (.v 1) (.cons (.c (.int 13)) .nil))) (.cons (.ret (.b (.att tbl_arm) (.cons (.v 0) .nil)))
      .nil) .nil)
      (.cons (.ret (.ite (.b .eq (.cons (.v 1) (.cons (.c (.int 16)) .nil))) (.b (.att tbl_line) (.cons (.v 0) .nil)) (.b (.att tbl_index) (.cons (.v 0) .nil))))
      .nil))))
def F__law_held : Fn := fnOf ct.sub T5 n__law_held.length ir__law_held
theorem ok__law_held (T : Txt K mg fd fi) (N : Blt mg)  : FnG P w K mg base 1 (He.ga K "_law_held") (fd 5) p__law_held (fsp (ok K tl) 2 F__law_held) := fnG_of (k := 0) T.f__law_held.fu sc__law_held rfl fun cdv A outer s H E R hR C hr tk =>
      (jss_cons (js_if (je_in C je_v (je_tup (ja_cons je_int (ja_cons je_int (ja_cons je_int (ja_cons je_int ja_nil)))))) (jss_cons (js_ret (je_att (hR.xt T.xt) (by rw [hR.cf]; exact tok_name) je_v))
      jss_nil) jss_nil)
      (jss_cons (js_if (je_eq C je_v je_int) (jss_cons (js_ret (je_att (hR.xt T.xt) (by rw [hR.cf]; exact tok_cycle) je_v))
      jss_nil) jss_nil)
      (jss_cons (js_if (je_eq C je_v je_int) (jss_cons (js_ret (je_att (hR.xt T.xt) (by rw [hR.cf]; exact tok_arm) je_v))
      jss_nil) jss_nil)
      (jss_cons (js_ret (je_ite (je_eq C je_v je_int) (je_att (hR.xt T.xt) (by rw [hR.cf]; exact tok_line) je_v) (je_att (hR.xt T.xt) (by rw [hR.cf]; exact tok_index) je_v)))
      jss_nil))))
def T6 : Nat → Fn := fun j => if j = 5 then F__law_held else T5 j
abbrev ir__law_right : Ss :=
      (.cons (.ite (.b .ne (.cons (.f 3 (.cons (.v 0) .nil) [] [0]) (.cons (.lc [("_law_spot", 3)] [3] .range1 (.cons (.c (.int 17)) .nil) .nil (.b .eq (.cons (.v 3) (.cons (.v 1) .nil)))) .nil))) (.cons (.ret (.c (.bl false)))
      .nil) .nil)
      (.cons (.ite (.or (.not (.b (.isx (.cls 0)) (.cons (.v 0) .nil))) (.not (.b (.isx .ve) (.cons (.v 0) .nil)))) (.cons (.ret (.c (.bl false)))
      .nil) .nil)
      (.cons (.ret (.or (.b .eq (.cons (.v 1) (.cons (.c (.int 14)) .nil))) (.b .eq (.cons (.b .repr (.cons (.f 5 (.cons (.v 0) (.cons (.v 1) .nil)) [] [0, 1]) .nil)) (.cons (.b .repr (.cons (.v 2) .nil)) .nil)))))
      .nil)))
def F__law_right : Fn := fnOf ct.sub T6 n__law_right.length ir__law_right
theorem t6_5 : T6 5 = F__law_held := by simp [T0, T1, T2, T3, T4, T5, T6]
theorem t6_3 : T6 3 = F__law_marks := by simp [T0, T1, T2, T3, T4, T5, T6]
theorem ok__law_right (T : Txt K mg fd fi) (N : Blt mg) (g__law_held : FnG P w K mg base 1 (He.ga K "_law_held") (fd 5) p__law_held (fsp (ok K tl) 2 F__law_held)) (g__law_marks : FnG P w K mg base 1 (He.ga K "_law_marks") (fd 3) p__law_marks (fsp (ok K tl) 1 F__law_marks)) : FnG P w K mg base 2 (He.ga K "_law_right") (fd 6) p__law_right (fsp (ok K tl) 3 F__law_right) := fnG_of (k := 1) T.f__law_right.fu sc__law_right rfl fun cdv A outer s H E R hR C hr tk =>
      (jss_cons (js_if (je_ne C (je_call C g__law_marks t6_3 hR tk (hr.mono (by decide)) rfl T.f__law_marks.m T.f__law_marks.fu.kp T.f__law_marks.b (ja_cons je_v ja_nil)) (lc_val C (ji_range1 rfl N.range (ja_cons je_int ja_nil)) (fun _ _ _ _ _ C => (jg_name C)) (fun _ _ _ _ _ C => jts_nil) (fun _ _ _ _ _ C => (je_eq C je_v je_v)))) (jss_cons (js_ret je_bl)
      jss_nil) jss_nil)
      (jss_cons (js_if (je_or (jb_or (je_not (je_isx (t := (.cls 0)) (hR.xt T.xt) rfl N.isinstance je_v (jc_cls (k := 0) (congrFun hR.ca 0) T.c_InplaceError rfl))) (jb_or1 (je_not (je_isx (t := .ve) (hR.xt T.xt) rfl N.isinstance je_v (jc_ve N.ValueError rfl)))))) (jss_cons (js_ret je_bl)
      jss_nil) jss_nil)
      (jss_cons (js_ret (je_or (jb_or (je_eq C je_v je_int) (jb_or1 (je_eq C (je_repr C rfl N.repr (ja_cons (je_call C g__law_held t6_5 hR tk (hr.mono (by decide)) rfl T.f__law_held.m T.f__law_held.fu.kp T.f__law_held.b (ja_cons je_v (ja_cons je_v ja_nil))) ja_nil)) (je_repr C rfl N.repr (ja_cons je_v ja_nil)))))))
      jss_nil)))
def T7 : Nat → Fn := fun j => if j = 6 then F__law_right else T6 j
abbrev ir__law_caught : Ss :=
      (.cons (.asg 1 (.c (.int 0)))
      (.cons (.try_ (.cons (.rse 14 (.cons (.v 0) .nil))
      .nil) 14 none (.cons (.asg 1 (.b .add (.cons (.v 1) (.cons (.c (.int 1)) .nil))))
      .nil))
      (.cons (.try_ (.cons (.rse 15 .nil)
      .nil) 0 none (.cons (.asg 1 (.b .add (.cons (.v 1) (.cons (.c (.int 1)) .nil))))
      .nil))
      (.cons (.try_ (.cons (.rse 8 (.cons (.v 0) .nil))
      .nil) 0 none (.cons (.asg 1 (.b .add (.cons (.v 1) (.cons (.c (.int 1)) .nil))))
      .nil))
      (.cons (.ret (.v 1))
      .nil)))))
def F__law_caught : Fn := fnOf ct.sub T7 n__law_caught.length ir__law_caught
theorem ok__law_caught (T : Txt K mg fd fi) (N : Blt mg)  : FnG P w K mg base 3 (He.ga K "_law_caught") (fd 7) p__law_caught (fsp (ok K tl) 1 F__law_caught) := fnG_of (k := 2) T.f__law_caught.fu sc__law_caught rfl fun cdv A outer s H E R hR C hr tk =>
      (jss_cons (js_asg C je_int)
      (jss_cons (js_try (c := 14) C (hR.xt T.xt) tk (congrFun hR.ca 14) rfl T.c_InvalidCounts (fun W pn xe tk po => have C := C.tr (pn := pn) po; (jss_cons (js_rse1 (c := 14) C (congrFun hR.ca 14) (congrFun hR.cf 14) (mk_InvalidCounts T) tk (hr.mono (by decide)) rfl T.c_InvalidCounts je_v)
      jss_nil)) fun a pn => (jss_cons (js_asgN (C.nd) (je_add je_v je_int))
      jss_nil))
      (jss_cons (js_try (c := 0) C (hR.xt T.xt) tk (congrFun hR.ca 0) rfl T.c_InplaceError (fun W pn xe tk po => have C := C.tr (pn := pn) po; (jss_cons (js_rse0 (c := 15) C (congrFun hR.ca 15) (congrFun hR.cf 15) (mk_InvalidTree T) tk (hr.mono (by decide)) rfl T.c_InvalidTree)
      jss_nil)) fun a pn => (jss_cons (js_asgN (C.nd) (je_add je_v je_int))
      jss_nil))
      (jss_cons (js_try (c := 0) C (hR.xt T.xt) tk (congrFun hR.ca 0) rfl T.c_InplaceError (fun W pn xe tk po => have C := C.tr (pn := pn) po; (jss_cons (js_rse1 (c := 8) C (congrFun hR.ca 8) (congrFun hR.cf 8) (mk_HasCycle T) tk (hr.mono (by decide)) rfl T.c_HasCycle je_v)
      jss_nil)) fun a pn => (jss_cons (js_asgN (C.nd) (je_add je_v je_int))
      jss_nil))
      (jss_cons (js_ret je_v)
      jss_nil)))))
def T8 : Nat → Fn := fun j => if j = 7 then F__law_caught else T7 j
abbrev ir_law : Ss :=
      (.cons (.for_ [2] .range1 (.cons (.b .add (.cons (.c (.int 3)) (.cons (.b .min2 (.cons (.b .len (.cons (.v 0) .nil)) (.cons (.c (.int 10)) .nil))) .nil))) .nil) (.cons (.asg 3 (.lst (.cons (.c (.str "a")) (.cons (.c (.str "")) (.cons (.c .non) (.cons (.c (.int 0)) (.cons (.f 1 (.cons (.v 1) (.cons (.c (.int 100)) .nil)) [] [0, 1]) (.cons (.c (.bl true)) (.cons (.tup (.cons (.c (.int 0)) (.cons (.c (.int 3)) .nil))) (.cons (.lst (.cons (.c (.int 1)) .nil)) (.cons (.dd .nil) (.cons (.tup (.cons (.c (.str "a")) (.cons (.c .non) .nil))) (.cons (.b .neg (.cons (.c (.int 1)) .nil)) (.cons (.lst (.cons (.tup (.cons (.c (.str "use")) .nil)) .nil)) .nil))))))))))))))
      (.cons (.asg 4 (.f 2 (.cons (.v 1) (.cons (.v 3) .nil)) [] [0, 1]))
      (.cons (.for_ [5, 6] .enum (.cons (.f 4 (.cons (.v 4) .nil) [] [0]) .nil) (.cons (.ite (.or (.not (.f 6 (.cons (.b .idx (.cons (.v 6) (.cons (.c (.int 0)) .nil))) (.cons (.v 5) (.cons (.v 4) .nil))) [] [0, 1, 2])) (.not (.f 6 (.cons (.b .idx (.cons (.v 6) (.cons (.c (.int 1)) .nil))) (.cons (.v 5) (.cons (.v 4) .nil))) [] [0, 1, 2]))) (.cons (.ret (.c (.bl false)))
      .nil) .nil)
      .nil))
      (.cons (.ite (.b .ne (.cons (.f 7 (.cons (.v 4) .nil) [] [0]) (.cons (.c (.int 3)) .nil))) (.cons (.ret (.c (.bl false)))
      .nil) .nil)
      .nil)))))
      (.cons (.ret (.c (.bl true)))
      .nil))
theorem t8_7 : T8 7 = F__law_caught := by simp [T0, T1, T2, T3, T4, T5, T6, T7, T8]
theorem t8_4 : T8 4 = F__law_pairs := by simp [T0, T1, T2, T3, T4, T5, T6, T7, T8]
theorem t8_2 : T8 2 = F__law_pick := by simp [T0, T1, T2, T3, T4, T5, T6, T7, T8]
theorem t8_6 : T8 6 = F__law_right := by simp [T0, T1, T2, T3, T4, T5, T6, T7, T8]
theorem t8_1 : T8 1 = F__law_take := by simp [T0, T1, T2, T3, T4, T5, T6, T7, T8]
theorem law_rest (T : Txt K mg fd fi) (N : Blt mg) (g__law_caught : FnG P w K mg base 3 (He.ga K "_law_caught") (fd 7) p__law_caught (fsp (ok K tl) 1 F__law_caught)) (g__law_pairs : FnG P w K mg base 3 (He.ga K "_law_pairs") (fd 4) p__law_pairs (fsp (ok K tl) 1 F__law_pairs)) (g__law_pick : FnG P w K mg base 2 (He.ga K "_law_pick") (fd 2) p__law_pick (fsp (ok K tl) 2 F__law_pick)) (g__law_right : FnG P w K mg base 2 (He.ga K "_law_right") (fd 6) p__law_right (fsp (ok K tl) 3 F__law_right)) (g__law_take : FnG P w K mg base 1 (He.ga K "_law_take") (fd 1) p__law_take (fsp (ok K tl) 2 F__law_take)) {cdv : Value} {A : Around} {outer : List PySem.Env} {s : Shared} {H : Hp} {E : XK} {R : Rn} (hR : ok K tl R) (C : Cok (cxOf (L2.CX P w) P w K mg base n_law "law" (defScope s_law) (He.ga K "law") cdv A outer s H E)) (hr : Room 3 (A.deeper (envOfC "law" (defScope s_law) s.heap.objs.size (He.ga K "law") cdv)))
    (tk : Takes (cxOf (L2.CX P w) P w K mg base n_law "law" (defScope s_law) (He.ga K "law") cdv A outer s H E) (wX (cgOf R E ct.sub T8).W)) : JSs (cgOf R E ct.sub T8) (cxOf (L2.CX P w) P w K mg base n_law "law" (defScope s_law) (He.ga K "law") cdv A outer s H E) ((defBody s_law).drop 1) ir_law :=
      (jss_cons (js_for C (ji_range1 rfl N.range (ja_cons (je_add je_int (je_min2 C rfl N.min (ja_cons (je_len rfl N.len (ja_cons je_v ja_nil)) (ja_cons je_int ja_nil)))) ja_nil)) (jg_name C) (jss_cons (js_asg C (je_lst (ja_cons je_str (ja_cons je_str (ja_cons je_non (ja_cons je_int (ja_cons (je_call C g__law_take t8_1 hR tk (hr.mono (by decide)) rfl T.f__law_take.m T.f__law_take.fu.kp T.f__law_take.b (ja_cons je_v (ja_cons je_int ja_nil))) (ja_cons je_bl (ja_cons (je_tup (ja_cons je_int (ja_cons je_int ja_nil))) (ja_cons (je_lst (ja_cons je_int ja_nil)) (ja_cons je_dd0 (ja_cons (je_tup (ja_cons je_str (ja_cons je_non ja_nil))) (ja_cons (je_neg je_int) (ja_cons (je_lst (ja_cons (je_tup (ja_cons je_str ja_nil)) ja_nil)) ja_nil))))))))))))))
      (jss_cons (js_asg C (je_call C g__law_pick t8_2 hR tk (hr.mono (by decide)) rfl T.f__law_pick.m T.f__law_pick.fu.kp T.f__law_pick.b (ja_cons je_v (ja_cons je_v ja_nil))))
      (jss_cons (js_for C (ji_enumL rfl N.enumerate (ja_cons (je_call C g__law_pairs t8_4 hR tk (hr.mono (by decide)) rfl T.f__law_pairs.m T.f__law_pairs.fu.kp T.f__law_pairs.b (ja_cons je_v ja_nil)) ja_nil)) (jg_tup C (jgs_cons C (jgs_cons C jgs_nil))) (jss_cons (js_if (je_or (jb_or (je_not (je_call C g__law_right t8_6 hR tk (hr.mono (by decide)) rfl T.f__law_right.m T.f__law_right.fu.kp T.f__law_right.b (ja_cons (je_idx je_v je_int) (ja_cons je_v (ja_cons je_v ja_nil))))) (jb_or1 (je_not (je_call C g__law_right t8_6 hR tk (hr.mono (by decide)) rfl T.f__law_right.m T.f__law_right.fu.kp T.f__law_right.b (ja_cons (je_idx je_v je_int) (ja_cons je_v (ja_cons je_v ja_nil)))))))) (jss_cons (js_ret je_bl)
      jss_nil) jss_nil)
      jss_nil))
      (jss_cons (js_if (je_ne C (je_call C g__law_caught t8_7 hR tk (hr.mono (by decide)) rfl T.f__law_caught.m T.f__law_caught.fu.kp T.f__law_caught.b (ja_cons je_v ja_nil)) je_int) (jss_cons (js_ret je_bl)
      jss_nil) jss_nil)
      jss_nil)))))
      (jss_cons (js_ret je_bl)
      jss_nil))
end
end K

set_option maxHeartbeats 1000000
namespace K
open PySem PySem.Spec PyProof.Rows L2 G
section
variable {P : Program} {w : World} {K : PySem.W.Frag} {mg : Str → Option Value} {base : Heap} {fd fi : Nat → FuncData}
theorem at_v {Q : V → Hp → Prop} {v v' : V} {H : Hp} (e : v = v') (q : Q v' H) : Q v H := by rw [e]; exact q
theorem mod_k {i : Int} {n : Nat} (h : 0 < n) : ∃ k : Nat, i % (n : Int) = (k : Int) ∧ k < n := by
  have h1 : 0 ≤ i % (n : Int) := Int.emod_nonneg i (by omega)
  have h2 : i % (n : Int) < (n : Int) := Int.emod_lt_of_pos i (by omega)
  exact ⟨(i % (n : Int)).toNat, by omega, by omega⟩
theorem atI_int {cs : List Int} {k : Nat} (h : k < cs.length) : atI (cs.map V.int) (k : Int) = some (.int cs[k]) := by
  unfold atI
  rw [List.length_map, ixN_k h]
  simp [h]
theorem set_int {cs : List Int} {k : Nat} {v : Int} : (cs.map V.int).set k (.int v) = (cs.set k v).map V.int := by rw [List.map_set]
theorem ok__law_take (T : Txt K mg fd fi) (N : Blt mg) : FnG P w K mg base 1 (He.ga K "_law_take") (fd 1) p__law_take (fsp (ok K 1) 2 F__law_take) := by
  refine fnG_hand (k := 0) T.f__law_take.fu sc__law_take (fun vs H Q E h => ?_) fun cdv A outer s H vs Q E C hr h => ⟨_,
    pss_cons (ps_set (i := 2) C.nd rfl (.inl rfl) (pe_ix ix_seq (pv 0) pe_int (fun _ _ => rfl)))
    (pss_cons (ps_set (i := 3) C.nd rfl (.inl rfl) (pe_op op_mod (pe_callTy call_int1 rfl N.int (by rfl) (pa_cons (pe_ix ix_seq (pv 0) pe_int (fun _ _ => rfl)) pa_nil)) (pe_callB call_len_seq (by rfl) N.len PySem.boot_len (pa_cons (pv 2) pa_nil))))
    (pss_cons (ps_set (i := 4) C.nd rfl (.inl rfl) (pe_ix ix_seq (pv 2) (pv 3) (fun _ _ => rfl)))
    (pss_cons (ps_if (pt_cmpR op_ge (pv 4) (pe_op op_pow pe_int pe_int) (nomark _))
      (pss_cons (ps_asg (pe_op op_fdiv (pv 4) (pv 1)) (pg_sub (pv 2) (pv 3) set_list (by intro _; rfl)))
      (pss_one (ps_ret (pe_op op_mod (pe_callTy call_int1 rfl N.int (by rfl) (pa_cons (pv 4) pa_nil)) (pv 1)))))
      pss_nil)
    (pss_cons (ps_asg (pe_op op_add (pe_ix ix_seq (pv 0) pe_int (fun _ _ => rfl)) pe_int) (pg_sub (pv 0) pe_int set_list (by intro _; rfl)))
    (pss_cons (ps_asg (pe_op op_add (pe_ix ix_seq (pv 0) pe_int (fun _ _ => rfl)) pe_int) (pg_sub (pv 0) pe_int set_list (by intro _; rfl)))
    (pss_cons (ps_asg (pe_op op_mod (pe_callTy call_int1 rfl N.int (by rfl) (pa_cons (pe_op op_add (pe_op op_add (pe_op op_add (pe_op op_mul (pe_ix ix_seq (pv 0) pe_int (fun _ _ => rfl)) pe_int) (pv 4)) (pe_op op_mul pe_int (pe_ix ix_seq (pv 0) pe_int (fun _ _ => rfl)))) pe_int) pa_nil)) pe_int) (pg_sub (pv 0) pe_int set_list (by intro _; rfl)))
    (pss_cons (ps_set (i := 5) C.nd rfl (.inl rfl) (pe_op op_mod (pe_callTy call_int1 rfl N.int (by rfl) (pa_cons (pe_op op_mul (pe_ix ix_seq (pv 0) pe_int (fun _ _ => rfl)) (pe_ix ix_seq (pv 0) pe_int (fun _ _ => rfl))) pa_nil)) pe_int))
    (pss_one (ps_ret (pe_op op_mod (pe_callTy call_int1 rfl N.int (by rfl) (pa_cons (pe_op op_fdiv (pv 5) pe_int) pa_nil)) (pv 1)))))))))))
    , ?_⟩
  · obtain ⟨R, _, ds, F, g, r, hl, _⟩ := h
    rw [r.length, hl]
    rfl
  · obtain ⟨R, F, r, n, i, m, cs, tl, hR, g, hr, rfl, hn, hn2, ne, h1, h2, hi, hm, hm2, hc, hc2, htl, hQ⟩ := draw_in rfl h
    obtain ⟨j, rfl⟩ : ∃ j, tl = [j] := by
      rw [hR.tl] at htl
      match tl, htl with
      | [j], _ => exact ⟨j, rfl⟩
    have hlen : (0 : Int) < ((cs.map V.int).length : Int) := by
      have := List.length_pos_iff.mpr hc
      rw [List.length_map]
      omega
    obtain ⟨k, hk, hkl⟩ := mod_k (i := i) (List.length_pos_iff.mpr hc)
    refine ⟨_, rfl, .inl ⟨r.1, _, _, _, rfl, rfl, .of h1, atI_0, ?_⟩⟩
    refine ⟨_, rfl, .inl ⟨r.1, _, _, _, rfl, rfl, .of h1, atI_1, .inl ⟨_, rfl, _, rfl, r.2, _, rfl, .inl (.of h2), _, _, rfl, rfl, hlen, ?_⟩⟩⟩
    show gName 3 (V.int (i % ((cs.map V.int).length : Int))) _ _ _
    rw [List.length_map, hk]
    refine ⟨_, rfl, _, rfl, .inl ⟨r.2, _, _, _, rfl, rfl, .of h2, atI_int hkl, ?_⟩⟩
    refine ⟨_, rfl, 10, 18, rfl, rfl, ⟨by decide, by decide, by decide⟩, _, _, rfl, rfl, _, rfl, ?_⟩
    refine ite2 (fun _ => ?_) fun _ => ?_
    · refine ⟨_, rfl, _, rfl, _, _, rfl, rfl, ⟨hn, by omega⟩, ?_⟩
      refine ⟨_, rfl, _, rfl, r.2, _, _, k, rfl, rfl, h2, by rw [List.length_map]; exact ixN_k hkl, ?_⟩
      refine ⟨_, rfl, .inl ⟨_, rfl, _, rfl, _, _, rfl, rfl, hn, ?_⟩⟩
      rw [set_int]
      refine draw_fin g hr hQ ⟨Int.emod_nonneg _ (by omega), Int.emod_lt_of_pos _ hn⟩ (fun a z1 z2 => upd_ne z2) ?_
      unfold RndOk
      rw [hr]
      exact ⟨i, m, _, _, ne, by rw [upd_ne ne]; exact h1, upd_same, hi, hm, hm2, fun z => hc (by simpa using z), by rw [List.length_set]; exact hc2, htl⟩
    · refine ⟨_, rfl, .inl ⟨r.1, _, _, _, rfl, rfl, .of h1, atI_1, _, _, rfl, rfl, ?_⟩⟩
      refine ⟨_, rfl, r.1, _, 1, 1, rfl, rfl, h1, rfl, ?_⟩
      have e1 := (upd_same : upd H r.1 (.lst [.ref r.2, .int (i + 1), .int m, .int j]) r.1 = _)
      refine ⟨_, rfl, .inl ⟨r.1, _, _, _, rfl, rfl, .of e1, atI_3, _, _, rfl, rfl, ?_⟩⟩
      refine ⟨_, rfl, r.1, _, 3, 3, rfl, rfl, e1, rfl, ?_⟩
      rw [upd_upd]
      have e2 := (upd_same : upd H r.1 (.lst [.ref r.2, .int (i + 1), .int m, .int (j + 1)]) r.1 = _)
      refine ⟨_, rfl, .inl ⟨r.1, _, _, _, rfl, rfl, .of e2, atI_2, _, _, rfl, rfl, .inr ⟨by decide, by decide⟩, _, rfl, _, _, rfl, rfl, _, rfl, .inl ⟨r.1, _, _, _, rfl, rfl, .of e2, atI_3, _, _, rfl, rfl, .inl ⟨by decide, by decide⟩, _, _, rfl, rfl, _, _, rfl, rfl, .inl ⟨_, rfl, _, _, rfl, rfl, (by show (0 : Int) < 2147483647; decide), ?_⟩⟩⟩⟩
      refine ⟨_, rfl, r.1, _, 2, 2, rfl, rfl, e2, rfl, ?_⟩
      rw [upd_upd]
      obtain ⟨m', hm'⟩ : ∃ m', m' = (m * 48271 + cs[k] + 7919 * (j + 1) + 12345) % 2147483647 := ⟨_, rfl⟩
      have m1 : 0 ≤ m' := by rw [hm']; exact Int.emod_nonneg _ (by decide)
      have m2 : m' < 2147483647 := by rw [hm']; exact Int.emod_lt_of_pos _ (by decide)
      have e3 : upd H r.1 (.lst [.ref r.2, .int (i + 1), .int ((m * 48271 + cs[k] + 7919 * (j + 1) + 12345) % 2147483647), .int (j + 1)]) r.1 = some (.lst [.ref r.2, .int (i + 1), .int m', .int (j + 1)]) := by rw [hm']; exact upd_same
      refine ⟨_, rfl, .inl ⟨r.1, _, _, _, rfl, rfl, .of e3, atI_2, _, rfl, .inl ⟨r.1, _, _, _, rfl, rfl, .of e3, atI_2, _, _, rfl, rfl, (show CMul m' m' from .inl ⟨by omega, by omega⟩), .inl ⟨_, rfl, _, _, rfl, rfl, (by show (0 : Int) < 2147483629; decide), ?_⟩⟩⟩⟩
      refine ⟨_, rfl, _, _, rfl, rfl, ⟨by decide, by decide⟩, .inl ⟨_, rfl, _, rfl, _, _, rfl, rfl, hn, ?_⟩⟩
      refine draw_fin g hr hQ ⟨Int.emod_nonneg _ (by omega), Int.emod_lt_of_pos _ hn⟩ (fun a z1 z2 => upd_ne z1) ?_
      unfold RndOk
      rw [hr]
      exact ⟨i + 1, m', cs, [j + 1], ne, e3, by rw [upd_ne (Ne.symm ne)]; exact h2, by omega, m1, by omega, hc, hc2, htl⟩
end
end K

set_option maxHeartbeats 1000000
namespace K
open PySem PySem.Spec PyProof.Rows L2 G
theorem begin_ok (ns : List Int) (h : ns.length ≤ 63) : BeginOk 1 F__law_begin ns := by
  apply BeginOk.of
  unfold F__law_begin
  refine wpF_fnOf ?_
  show wp _ [some (0, .scr ns), none] _ _
  simp
  generalize hc : cut (List.map D.int ns) none (some 63) = xs
  have hx : ∃ zs : List Int, xs = zs.map .int ∧ zs.length ≤ 63 := by
    rw [← hc]
    unfold cut
    rw [← List.map_drop, ← List.map_take]
    exact ⟨_, rfl, by simp; omega⟩
  obtain ⟨zs, rfl, hz⟩ := hx
  refine wp_lcA (fun x => (absD x).getD .non) (by simp [idle]) (by rw [List.length_map, sizeLine_eq]; omega) (fun x hx => ?_) ?_
  · obtain ⟨i, _, rfl⟩ := List.mem_map.mp hx
    simp [wipeE, absD]
  · cases zs with
    | nil => exact .inl ⟨rfl, [7], 0, 1, [0], by simp⟩
    | cons i zs =>
      right
      refine ⟨by simp, ((i :: zs).map fun i => if i < 0 then -i else i), 0, 1, [0], ?_⟩
      have hz : zs.length + 1 ≤ 63 := hz
      simp [absD]
      omega
/-- what the errors are made of: repr tells it -/
structure Wok (w : D) : Prop where
  ex : ∃ s : Str, reprD w = some (.str s)
def prs (w : D) : List D := [.tup [.exn 1 [w], .exn 1 [w]], .tup [.exn 2 [w], .exn 2 [w]], .tup [.exn 3 [w], .exn 3 [w]], .tup [.exn 4 [w], .exn 4 [w]], .tup [.exn 5 [w], .exn 5 [w]], .tup [.exn 6 [w], .exn 6 [w]], .tup [.exn 7 [w], .exn 7 [w]], .tup [.exn 8 [w], .exn 8 [w]], .tup [.exn 9 [w], .exn 9 [w]], .tup [.exn 10 [w], .exn 10 [w]], .tup [.exn 11 [w], .exn 11 [w]], .tup [.exn 12 [w], .exn 12 [w]], .tup [.exn 13 [w], .exn 13 [w]], .tup [.exn 14 [w], .exn 14 [w]], .tup [.exn 15 [], .exn 15 []], .tup [.exn 16 [w], .exn 16 [w]], .tup [.exn 17 [w], .exn 17 [w]]]
theorem pairs_eq (w : D) : F__law_pairs [w] = .ret (.ok true (.lst (prs w))) := by kernel_rfl
theorem caught_eq (w : D) : F__law_caught [w] = .ret (.ok false (.int 3)) := by kernel_rfl
def ern (c : Nat) (w : D) : D := .exn (c + 1) (if c = 14 then [] else [w])
theorem held_eq (w : D) : ∀ c, c < 17 → c ≠ 14 → F__law_held [ern c w, .int c] = .ret (.ok false w) := fun c h n =>
  match c, h, n with
  | 0, _, _ => by kernel_rfl
  | 1, _, _ => by kernel_rfl
  | 2, _, _ => by kernel_rfl
  | 3, _, _ => by kernel_rfl
  | 4, _, _ => by kernel_rfl
  | 5, _, _ => by kernel_rfl
  | 6, _, _ => by kernel_rfl
  | 7, _, _ => by kernel_rfl
  | 8, _, _ => by kernel_rfl
  | 9, _, _ => by kernel_rfl
  | 10, _, _ => by kernel_rfl
  | 11, _, _ => by kernel_rfl
  | 12, _, _ => by kernel_rfl
  | 13, _, _ => by kernel_rfl
  | 15, _, _ => by kernel_rfl
  | 16, _, _ => by kernel_rfl
  | c + 17, h, _ => absurd h (by omega)
theorem right1 (w : D) : ∀ c, c < 17 → evSs ct.sub T6 (.cons (.ite (.b .ne (.cons (.f 3 (.cons (.v 0) .nil) [] [0]) (.cons (.lc [("_law_spot", 3)] [3] .range1 (.cons (.c (.int 17)) .nil) .nil (.b .eq (.cons (.v 3) (.cons (.v 1) .nil)))) .nil))) (.cons (.ret (.c (.bl false)))
      .nil) .nil)
      (.cons (.ite (.or (.not (.b (.isx (.cls 0)) (.cons (.v 0) .nil))) (.not (.b (.isx .ve) (.cons (.v 0) .nil)))) (.cons (.ret (.c (.bl false)))
      .nil) .nil) .nil)) [some (0, ern c w), some (0, .int c), some (0, w), none] = .ret (.ok .nx [some (0, ern c w), some (0, .int c), some (0, w), none]) := fun c h =>
  match c, h with
  | 0, _ => by kernel_rfl
  | 1, _ => by kernel_rfl
  | 2, _ => by kernel_rfl
  | 3, _ => by kernel_rfl
  | 4, _ => by kernel_rfl
  | 5, _ => by kernel_rfl
  | 6, _ => by kernel_rfl
  | 7, _ => by kernel_rfl
  | 8, _ => by kernel_rfl
  | 9, _ => by kernel_rfl
  | 10, _ => by kernel_rfl
  | 11, _ => by kernel_rfl
  | 12, _ => by kernel_rfl
  | 13, _ => by kernel_rfl
  | 14, _ => by kernel_rfl
  | 15, _ => by kernel_rfl
  | 16, _ => by kernel_rfl
  | c + 17, h => absurd h (by omega)
theorem right_ok {w : D} (h : Wok w) (c : Nat) (hc : c < 17) : wpF (F__law_right [ern c w, .int c, w]) (fun _ d => d = .bl true) fun _ => False := by
  obtain ⟨s, hs⟩ := h.ex
  unfold F__law_right
  refine wpF_fnOf ?_
  show wp (evSs ct.sub T6 (.cons _ (.cons _ (.cons _ .nil)))) [some (0, ern c w), some (0, .int c), some (0, w), none] _ _
  have h1 := right1 w c hc
  refine wp_two h1 ?_
  by_cases h14 : c = 14
  · subst h14
    simp [eqD_int]
  · have z : ¬ (c : Int) = 14 := by omega
    simp [eqD_int, z]
    refine wpF_det (held_eq w c hc h14) ?_
    simp [hs, eqD_str]
theorem pick_ok {l : List D} (hl : l ≠ []) (h2 : l.length < 1000) {P : D → Prop} (h : ∀ x ∈ l, P x) : wpF (F__law_pick [.rnd, .lst l]) (fun _ d => P d) fun _ => False := by
  have hp := List.length_pos_iff.mpr hl
  unfold F__law_pick
  refine wpF_fnOf ?_
  show wp _ [some (0, .rnd), some (0, .lst l)] _ _
  simp [permD, t2_1]
  refine wpF_draw ⟨by omega, by omega⟩ fun i hi => ?_
  have hi' : i < l.length := by omega
  simp [atI_nat' hi']
  exact h _ (List.getElem_mem hi')
/-- the attributes -/
def some_ (i : Nat) : List D := [.str "a", .str "", .non, .int 0, .int i, .bl true, .tup [.int 0, .int 3], .lst [.int 1], .dct [], .tup [.str "a", .non], .int (-1), .lst [.tup [.str "use"]]]
theorem some_ok (i : Nat) (h : i < 100) : ∀ w ∈ some_ i, Wok w := by
  have all : ∀ i : Fin 100, (some_ i).all (fun w => (reprD w).isSome) = true := by decide +kernel
  intro w hw
  have := List.all_eq_true.mp (all ⟨i, h⟩) w hw
  obtain ⟨d, hd⟩ := Option.isSome_iff_exists.mp this
  have hd' := hd
  unfold reprD at hd'
  split at hd'
  · split at hd'
    · cases hd'
      exact ⟨_, hd⟩
    · cases hd'
  · cases hd'
theorem prs_all (w : D) : ∀ y ∈ enumD (prs w), ∃ c, c < 17 ∧ y = .tup [.int (c : Nat), .tup [ern c w, ern c w]] := by
  intro y hy
  obtain ⟨c, hc, rfl⟩ := List.getElem_of_mem hy
  have hl : (enumD (prs w)).length = 17 := by simp [enumD, prs]
  rw [hl] at hc
  refine ⟨c, hc, ?_⟩
  have all : ∀ c : Fin 17, (enumD (prs w))[c.val]? = some (.tup [.int (c.val : Nat), .tup [ern c.val w, ern c.val w]]) := fun ⟨c, hc⟩ => match c, hc with
    | 0, _ => by kernel_rfl
    | 1, _ => by kernel_rfl
    | 2, _ => by kernel_rfl
    | 3, _ => by kernel_rfl
    | 4, _ => by kernel_rfl
    | 5, _ => by kernel_rfl
    | 6, _ => by kernel_rfl
    | 7, _ => by kernel_rfl
    | 8, _ => by kernel_rfl
    | 9, _ => by kernel_rfl
    | 10, _ => by kernel_rfl
    | 11, _ => by kernel_rfl
    | 12, _ => by kernel_rfl
    | 13, _ => by kernel_rfl
    | 14, _ => by kernel_rfl
    | 15, _ => by kernel_rfl
    | 16, _ => by kernel_rfl
    | c + 17, h => absurd h (by omega)
  have := all ⟨c, hc⟩
  rw [List.getElem?_eq_getElem (by rw [hl]; exact hc)] at this
  exact Option.some.inj this
theorem law_ok (ns : List Int) (h : ns.length ≤ 63) : SaysT (evSs ct.sub T8 ir_law) 5 ns := by
  refine SaysT.of ?_
  show wp _ [some (0, .scr ns), some (0, .rnd), none, none, none, none, none] _ _
  simp
  refine ⟨_, ⟨by constructor <;> split <;> omega, rfl⟩, ?_⟩
  refine wp_forL (fun _ e => ∃ a b c d f, e = [some (0, .scr ns), some (0, .rnd), a, b, c, d, f]) _ _ ⟨_, _, _, _, _, rfl⟩ (fun x r e ⟨a, b, c, d, f, he⟩ => ?_) fun e _ => trivial
  subst he
  simp
  rw [show T8 1 = drawF from rfl, show T8 2 = F__law_pick from rfl, show T8 4 = F__law_pairs from rfl]
  refine wpF_draw ⟨by decide, by decide⟩ fun i hi => ⟨_, rfl, ?_⟩
  refine wpF_mono (pick_ok (P := Wok) (l := some_ i) (by simp [some_]) (by simp [some_]) (some_ok i (by omega))) (fun fr w hw => ?_) fun _ z => z.elim
  refine wpF_det (pairs_eq w) ⟨_, rfl, ?_⟩
  refine wp_forL (fun r e => (∀ y ∈ r, ∃ c, c < 17 ∧ y = .tup [.int (c : Nat), .tup [ern c w, ern c w]]) ∧ ∃ d f, e = [some (0, .scr ns), some (0, .rnd), some (0, x), some (0, .lst (some_ i)), some (0, w), d, f]) _ _ ⟨prs_all w, _, _, rfl⟩ (fun y r' e ⟨h1, d', f', he⟩ => ?_) fun e ⟨_, d', f', he⟩ => ?_
  · obtain ⟨c, hc, rfl⟩ := h1 y List.mem_cons_self
    have h2 : ∀ y ∈ r', ∃ c, c < 17 ∧ y = .tup [.int (c : Nat), .tup [ern c w, ern c w]] := fun y hy => h1 y (List.mem_cons_of_mem _ hy)
    subst he
    simp
    rw [show T8 6 = F__law_right from rfl]
    have k : permD [(0, ern c w), (0, D.int (c : Nat)), (0, w)] [0, 1, 2] = [ern c w, .int (c : Nat), w] := rfl
    refine ⟨_, atI_0, ?_⟩
    rw [k]
    refine wpF_mono (right_ok hw c hc) (fun fr d hd => ?_) fun _ z => z.elim
    subst hd
    refine ⟨rfl, _, atI_1, ?_⟩
    rw [k]
    refine wpF_mono (right_ok hw c hc) (fun fr d hd => ?_) fun _ z => z.elim
    subst hd
    exact ⟨rfl, h2⟩
  · subst he
    simp
    rw [show T8 7 = F__law_caught from rfl]
    refine wpF_det (caught_eq w) ?_
    simp [eqD_int]
end K

set_option maxHeartbeats 1000000
namespace K
open PySem PySem.Spec PyProof.Rows L2 G
/-- the law, as the head calls it -/
def spLaw : Sp := fun vs H Q _ => ∃ (a : Addr) (ns : List Int) (o : Obj), vs = [.ref a] ∧ ns.length ≤ 63 ∧ (∀ b, b ≠ a → H b = none) ∧ H a = some (.frz o (.lst (ns.map V.int))) ∧ ∀ H', Q (.bl true) H'
section
variable {P : Program} {w : World} {K : PySem.W.Frag} {mg : Str → Option Value} {base : Heap} {fd fi : Nat → FuncData}
theorem ok_law (T : Txt K mg fd fi) (N : Blt mg) : FnG P w K mg base 4 (He.ga K "law") (fd 8) p_law spLaw := by
  have g__law_take := ok__law_take (P := P) (w := w) (base := base) T N
  have g__law_begin := ok__law_begin (P := P) (w := w) (base := base) (tl := 1) T N 
  have g__law_pick := ok__law_pick (P := P) (w := w) (base := base) (tl := 1) T N g__law_take
  have g__law_marks := ok__law_marks (P := P) (w := w) (base := base) (tl := 1) T N 
  have g__law_pairs := ok__law_pairs (P := P) (w := w) (base := base) (tl := 1) T N 
  have g__law_held := ok__law_held (P := P) (w := w) (base := base) (tl := 1) T N 
  have g__law_right := ok__law_right (P := P) (w := w) (base := base) (tl := 1) T N g__law_held g__law_marks
  have g__law_caught := ok__law_caught (P := P) (w := w) (base := base) (tl := 1) T N 
  refine fnG_hand (k := 3) T.f_law.fu sc_law (fun vs H Q E h => by obtain ⟨a, ns, o, rfl, _⟩ := h; rfl) fun cdv A outer s H vs Q E C hr h => ?_
  have tk : Takes (cxOf (L2.CX P w) P w K mg base n_law "law" (defScope s_law) (He.ga K "law") cdv A outer s H E) (wX (cgOf { w := w, r := none } E ct.sub T8).W) := (takes_of rfl rfl rfl rfl).imp fun c d σ H ⟨_, z⟩ => z
  have hrest : PSs (cxOf (L2.CX P w) P w K mg base n_law "law" (defScope s_law) (He.ga K "law") cdv A outer s H E) ((defBody s_law).drop 1) (fun D σ H => ∃ R, OkR (ct.ca K) ct.cf 1 R ∧ tS R (fun _ cls dd _ H => E cls dd H) (evSs ct.sub T8 ir_law) D σ H) :=
    ⟨fun pins s σ H D I ⟨R, hR, h⟩ => (law_rest T N g__law_caught g__law_pairs g__law_pick g__law_right g__law_take hR C hr tk).run.run pins s σ H D I h⟩
  refine ⟨_, pss_cons (ps_set (i := 1) C.nd rfl (.inl rfl) (pe_callG C g__law_begin tk (hr.mono (by decide)) rfl T.f__law_begin.m T.f__law_begin.fu.kp T.f__law_begin.b (pa_cons (pv 0) pa_nil))) hrest, ?_⟩
  refine law_run (w := w) (tl := 1) (m := evSs ct.sub T8 ir_law) (W := fun _ cls dd _ H => E cls dd H) ?_
  obtain ⟨a, ns, o, rfl, hl, h1, h2, h3⟩ := h
  exact ⟨a, ns, o, 5, rfl, hl, h1, h2, begin_ok ns hl, law_ok ns hl, h3⟩
end
end K

set_option maxHeartbeats 1000000
namespace K
open PySem PySem.Spec PyProof.Rows L2 G
/-! ### the head -/
def d__law_take : He.DefD := ⟨("_law_take", none), "_law_take", "_law_take", defArgs s__law_take, defBody s__law_take, defScope s__law_take, [], []⟩
def d__law_begin : He.DefD := ⟨("_law_begin", none), "_law_begin", "_law_begin", defArgs s__law_begin, defBody s__law_begin, defScope s__law_begin, [], []⟩
def d__law_pick : He.DefD := ⟨("_law_pick", none), "_law_pick", "_law_pick", defArgs s__law_pick, defBody s__law_pick, defScope s__law_pick, [], []⟩
def d__law_marks : He.DefD := ⟨("_law_marks", none), "_law_marks", "_law_marks", defArgs s__law_marks, defBody s__law_marks, defScope s__law_marks, [], []⟩
def d__law_pairs : He.DefD := ⟨("_law_pairs", none), "_law_pairs", "_law_pairs", defArgs s__law_pairs, defBody s__law_pairs, defScope s__law_pairs, [], []⟩
def d__law_held : He.DefD := ⟨("_law_held", none), "_law_held", "_law_held", defArgs s__law_held, defBody s__law_held, defScope s__law_held, [], []⟩
def d__law_right : He.DefD := ⟨("_law_right", none), "_law_right", "_law_right", defArgs s__law_right, defBody s__law_right, defScope s__law_right, [], []⟩
def d__law_caught : He.DefD := ⟨("_law_caught", none), "_law_caught", "_law_caught", defArgs s__law_caught, defBody s__law_caught, defScope s__law_caught, [], []⟩
def d_law : He.DefD := ⟨("law", none), "law", "law", defArgs s_law, defBody s_law, defScope s_law, [], []⟩
def e_HasCycle : He.DefD := ⟨("HasCycle", some "__init__"), "__init__", "HasCycle.__init__", defArgs (clsM (top 9) 0), defBody (clsM (top 9) 0), defScope (clsM (top 9) 0), [], []⟩
def e_InvalidAssignment : He.DefD := ⟨("InvalidAssignment", some "__init__"), "__init__", "InvalidAssignment.__init__", defArgs (clsM (top 10) 0), defBody (clsM (top 10) 0), defScope (clsM (top 10) 0), [], []⟩
def e_InvalidCell : He.DefD := ⟨("InvalidCell", some "__init__"), "__init__", "InvalidCell.__init__", defArgs (clsM (top 5) 0), defBody (clsM (top 5) 0), defScope (clsM (top 5) 0), [], []⟩
def e_InvalidChain : He.DefD := ⟨("InvalidChain", some "__init__"), "__init__", "InvalidChain.__init__", defArgs (clsM (top 8) 0), defBody (clsM (top 8) 0), defScope (clsM (top 8) 0), [], []⟩
def e_InvalidCounts : He.DefD := ⟨("InvalidCounts", some "__init__"), "__init__", "InvalidCounts.__init__", defArgs (clsM (top 15) 0), defBody (clsM (top 15) 0), defScope (clsM (top 15) 0), [], []⟩
def e_InvalidModule : He.DefD := ⟨("InvalidModule", some "__init__"), "__init__", "InvalidModule.__init__", defArgs (clsM (top 11) 0), defBody (clsM (top 11) 0), defScope (clsM (top 11) 0), [], []⟩
def e_InvalidOrder : He.DefD := ⟨("InvalidOrder", some "__init__"), "__init__", "InvalidOrder.__init__", defArgs (clsM (top 6) 0), defBody (clsM (top 6) 0), defScope (clsM (top 6) 0), [], []⟩
def e_InvalidPlan : He.DefD := ⟨("InvalidPlan", some "__init__"), "__init__", "InvalidPlan.__init__", defArgs (clsM (top 7) 0), defBody (clsM (top 7) 0), defScope (clsM (top 7) 0), [], []⟩
def e_InvalidProgram : He.DefD := ⟨("InvalidProgram", some "__init__"), "__init__", "InvalidProgram.__init__", defArgs (clsM (top 2) 0), defBody (clsM (top 2) 0), defScope (clsM (top 2) 0), [], []⟩
def e_InvalidSignature : He.DefD := ⟨("InvalidSignature", some "__init__"), "__init__", "InvalidSignature.__init__", defArgs (clsM (top 14) 0), defBody (clsM (top 14) 0), defScope (clsM (top 14) 0), [], []⟩
def e_InvalidSweep : He.DefD := ⟨("InvalidSweep", some "__init__"), "__init__", "InvalidSweep.__init__", defArgs (clsM (top 17) 0), defBody (clsM (top 17) 0), defScope (clsM (top 17) 0), [], []⟩
def e_InvalidText : He.DefD := ⟨("InvalidText", some "__init__"), "__init__", "InvalidText.__init__", defArgs (clsM (top 18) 0), defBody (clsM (top 18) 0), defScope (clsM (top 18) 0), [], []⟩
def e_InvalidTree : He.DefD := ⟨("InvalidTree", some "__init__"), "__init__", "InvalidTree.__init__", defArgs (clsM (top 16) 0), defBody (clsM (top 16) 0), defScope (clsM (top 16) 0), [], []⟩
def e_UnknownArm : He.DefD := ⟨("UnknownArm", some "__init__"), "__init__", "UnknownArm.__init__", defArgs (clsM (top 13) 0), defBody (clsM (top 13) 0), defScope (clsM (top 13) 0), [], []⟩
def e_UnknownFunction : He.DefD := ⟨("UnknownFunction", some "__init__"), "__init__", "UnknownFunction.__init__", defArgs (clsM (top 12) 0), defBody (clsM (top 12) 0), defScope (clsM (top 12) 0), [], []⟩
def e_UnknownStatement : He.DefD := ⟨("UnknownStatement", some "__init__"), "__init__", "UnknownStatement.__init__", defArgs (clsM (top 4) 0), defBody (clsM (top 4) 0), defScope (clsM (top 4) 0), [], []⟩
def e_UnknownValue : He.DefD := ⟨("UnknownValue", some "__init__"), "__init__", "UnknownValue.__init__", defArgs (clsM (top 3) 0), defBody (clsM (top 3) 0), defScope (clsM (top 3) 0), [], []⟩
def fn : List He.DefD := [d__law_take, d__law_begin, d__law_pick, d__law_marks, d__law_pairs, d__law_held, d__law_right, d__law_caught, d_law, e_HasCycle, e_InvalidAssignment, e_InvalidCell, e_InvalidChain, e_InvalidCounts, e_InvalidModule, e_InvalidOrder, e_InvalidPlan, e_InvalidProgram, e_InvalidSignature, e_InvalidSweep, e_InvalidText, e_InvalidTree, e_UnknownArm, e_UnknownFunction, e_UnknownStatement, e_UnknownValue]
def fa : List He.Fa := [.glo "_law_take", .glo "_law_begin", .glo "_law_pick", .glo "_law_marks", .glo "_law_pairs", .glo "_law_held", .glo "_law_right", .glo "_law_caught", .glo "law", .glo "HasCycle", .glo "InplaceError", .glo "InvalidAssignment", .glo "InvalidCell", .glo "InvalidChain", .glo "InvalidCounts", .glo "InvalidModule", .glo "InvalidOrder", .glo "InvalidPlan", .glo "InvalidProgram", .glo "InvalidSignature", .glo "InvalidSweep", .glo "InvalidText", .glo "InvalidTree", .glo "UnknownArm", .glo "UnknownFunction", .glo "UnknownStatement", .glo "UnknownValue", .free "ValueError", .free "abs", .free "enumerate", .free "int", .free "isinstance", .free "len", .free "min", .free "range", .free "repr"]
def bx (K : PySem.W.Frag) : Bool := xtB ct K && (baB K (ct.ca K 0) && (inB K "HasCycle" && (inB K "InvalidAssignment" && (inB K "InvalidCell" && (inB K "InvalidChain" && (inB K "InvalidCounts" && (inB K "InvalidModule" && (inB K "InvalidOrder" && (inB K "InvalidPlan" && (inB K "InvalidProgram" && (inB K "InvalidSignature" && (inB K "InvalidSweep" && (inB K "InvalidText" && (inB K "InvalidTree" && (inB K "UnknownArm" && (inB K "UnknownFunction" && (inB K "UnknownStatement" && (inB K "UnknownValue"))))))))))))))))))
abbrev Rw : PySem.W.OpenRow := PySem.W.OpenLaw.row PySem.Challenge.rw_inplace_k05_errors
abbrev hk : PySem.W.Hook := hookX bx fa fn 5
def ob (s : PySem.W.SharedT) : AlX := obsXG bx fa fn 5 (HandSHeadRun.getT s)
theorem ob_eq (s : PySem.W.SharedT) : ob s = hk.obs s.abs := obsXG_eq bx fa fn (HandSHeadRun.getT_eq s)
def names0 : List PySem.Str := ["InplaceError", "InvalidProgram", "UnknownValue", "UnknownStatement", "InvalidCell", "InvalidOrder", "InvalidPlan", "InvalidChain", "HasCycle", "InvalidAssignment", "InvalidModule", "UnknownFunction", "UnknownArm", "InvalidSignature", "InvalidCounts", "InvalidTree", "InvalidSweep", "InvalidText", "_law_begin", "_law_take", "_law_pick", "_law_marks", "_law_pairs", "_law_held", "_law_right", "_law_caught"]
def names : List PySem.Str := names0
theorem run (w : World) : HandSHeadRun.RunEq Rw (PySem.W.view Rw.prog [28]) hk ob 6000 names w := by
  intro os
  kernel_rfl
theorem facts {w : World} {K : PySem.W.Frag} {h : Heap} {mg : Str → Option Value} {f : Addr} (X : K.In h) (G : h.Ns mainGlobals mg) (hfa : mg ("law" : Str) = some (.ref f)) (c : SaysX bx fa fn K) :
    ∃ fd : FuncData, (∀ (s : Shared) (v : Value), BindsTo s fd ⟨[v], []⟩ [("_law_script", v)]) ∧ ∀ base : Heap, K.In base → base.Ns mainGlobals mg → FnG Rw.prog w K mg base 4 f fd p_law spLaw := by
  obtain ⟨x__law_take, F__law_take'⟩ := c.d.def_ 0 (d := d__law_take) rfl
  obtain ⟨x__law_begin, F__law_begin'⟩ := c.d.def_ 1 (d := d__law_begin) rfl
  obtain ⟨x__law_pick, F__law_pick'⟩ := c.d.def_ 2 (d := d__law_pick) rfl
  obtain ⟨x__law_marks, F__law_marks'⟩ := c.d.def_ 3 (d := d__law_marks) rfl
  obtain ⟨x__law_pairs, F__law_pairs'⟩ := c.d.def_ 4 (d := d__law_pairs) rfl
  obtain ⟨x__law_held, F__law_held'⟩ := c.d.def_ 5 (d := d__law_held) rfl
  obtain ⟨x__law_right, F__law_right'⟩ := c.d.def_ 6 (d := d__law_right) rfl
  obtain ⟨x__law_caught, F__law_caught'⟩ := c.d.def_ 7 (d := d__law_caught) rfl
  obtain ⟨x_law, F_law'⟩ := c.d.def_ 8 (d := d_law) rfl
  obtain ⟨y_HasCycle, I_HasCycle'⟩ := c.d.def_ 9 (d := e_HasCycle) rfl
  obtain ⟨y_InvalidAssignment, I_InvalidAssignment'⟩ := c.d.def_ 10 (d := e_InvalidAssignment) rfl
  obtain ⟨y_InvalidCell, I_InvalidCell'⟩ := c.d.def_ 11 (d := e_InvalidCell) rfl
  obtain ⟨y_InvalidChain, I_InvalidChain'⟩ := c.d.def_ 12 (d := e_InvalidChain) rfl
  obtain ⟨y_InvalidCounts, I_InvalidCounts'⟩ := c.d.def_ 13 (d := e_InvalidCounts) rfl
  obtain ⟨y_InvalidModule, I_InvalidModule'⟩ := c.d.def_ 14 (d := e_InvalidModule) rfl
  obtain ⟨y_InvalidOrder, I_InvalidOrder'⟩ := c.d.def_ 15 (d := e_InvalidOrder) rfl
  obtain ⟨y_InvalidPlan, I_InvalidPlan'⟩ := c.d.def_ 16 (d := e_InvalidPlan) rfl
  obtain ⟨y_InvalidProgram, I_InvalidProgram'⟩ := c.d.def_ 17 (d := e_InvalidProgram) rfl
  obtain ⟨y_InvalidSignature, I_InvalidSignature'⟩ := c.d.def_ 18 (d := e_InvalidSignature) rfl
  obtain ⟨y_InvalidSweep, I_InvalidSweep'⟩ := c.d.def_ 19 (d := e_InvalidSweep) rfl
  obtain ⟨y_InvalidText, I_InvalidText'⟩ := c.d.def_ 20 (d := e_InvalidText) rfl
  obtain ⟨y_InvalidTree, I_InvalidTree'⟩ := c.d.def_ 21 (d := e_InvalidTree) rfl
  obtain ⟨y_UnknownArm, I_UnknownArm'⟩ := c.d.def_ 22 (d := e_UnknownArm) rfl
  obtain ⟨y_UnknownFunction, I_UnknownFunction'⟩ := c.d.def_ 23 (d := e_UnknownFunction) rfl
  obtain ⟨y_UnknownStatement, I_UnknownStatement'⟩ := c.d.def_ 24 (d := e_UnknownStatement) rfl
  obtain ⟨y_UnknownValue, I_UnknownValue'⟩ := c.d.def_ 25 (d := e_UnknownValue) rfl
  have e := hfa.symm.trans (He.glo_ok X G (c.d.fact 8 (f := .glo "law") rfl))
  cases e
  have hb := c.b
  unfold bx at hb
  simp only [Bool.and_eq_true] at hb
  obtain ⟨b_xt, b_ba, b_HasCycle, b_InvalidAssignment, b_InvalidCell, b_InvalidChain, b_InvalidCounts, b_InvalidModule, b_InvalidOrder, b_InvalidPlan, b_InvalidProgram, b_InvalidSignature, b_InvalidSweep, b_InvalidText, b_InvalidTree, b_UnknownArm, b_UnknownFunction, b_UnknownStatement, b_UnknownValue⟩ := hb
  have T : Txt K mg (fun j => match j with | 1 => x__law_take | 0 => x__law_begin | 2 => x__law_pick | 3 => x__law_marks | 4 => x__law_pairs | 5 => x__law_held | 6 => x__law_right | 7 => x__law_caught | 8 => x_law | _ => x_law) (fun j => match j with | 8 => y_HasCycle | 9 => y_InvalidAssignment | 4 => y_InvalidCell | 7 => y_InvalidChain | 14 => y_InvalidCounts | 10 => y_InvalidModule | 5 => y_InvalidOrder | 6 => y_InvalidPlan | 1 => y_InvalidProgram | 13 => y_InvalidSignature | 16 => y_InvalidSweep | 17 => y_InvalidText | 15 => y_InvalidTree | 12 => y_UnknownArm | 11 => y_UnknownFunction | 3 => y_UnknownStatement | 2 => y_UnknownValue | _ => x_law) := {
    f__law_take := ⟨fun_of (st := s__law_take) F__law_take', He.glo_ok X G (c.d.fact 0 (f := .glo "_law_take") rfl), (fun_of (st := s__law_take) F__law_take').binds (ps := p__law_take) fun _ _ _ _ _ _ us hl => match us, hl with | [_, _], _ => rfl⟩
    f__law_begin := ⟨fun_of (st := s__law_begin) F__law_begin', He.glo_ok X G (c.d.fact 1 (f := .glo "_law_begin") rfl), (fun_of (st := s__law_begin) F__law_begin').binds (ps := p__law_begin) fun _ _ _ _ _ _ us hl => match us, hl with | [_], _ => rfl⟩
    f__law_pick := ⟨fun_of (st := s__law_pick) F__law_pick', He.glo_ok X G (c.d.fact 2 (f := .glo "_law_pick") rfl), (fun_of (st := s__law_pick) F__law_pick').binds (ps := p__law_pick) fun _ _ _ _ _ _ us hl => match us, hl with | [_, _], _ => rfl⟩
    f__law_marks := ⟨fun_of (st := s__law_marks) F__law_marks', He.glo_ok X G (c.d.fact 3 (f := .glo "_law_marks") rfl), (fun_of (st := s__law_marks) F__law_marks').binds (ps := p__law_marks) fun _ _ _ _ _ _ us hl => match us, hl with | [_], _ => rfl⟩
    f__law_pairs := ⟨fun_of (st := s__law_pairs) F__law_pairs', He.glo_ok X G (c.d.fact 4 (f := .glo "_law_pairs") rfl), (fun_of (st := s__law_pairs) F__law_pairs').binds (ps := p__law_pairs) fun _ _ _ _ _ _ us hl => match us, hl with | [_], _ => rfl⟩
    f__law_held := ⟨fun_of (st := s__law_held) F__law_held', He.glo_ok X G (c.d.fact 5 (f := .glo "_law_held") rfl), (fun_of (st := s__law_held) F__law_held').binds (ps := p__law_held) fun _ _ _ _ _ _ us hl => match us, hl with | [_, _], _ => rfl⟩
    f__law_right := ⟨fun_of (st := s__law_right) F__law_right', He.glo_ok X G (c.d.fact 6 (f := .glo "_law_right") rfl), (fun_of (st := s__law_right) F__law_right').binds (ps := p__law_right) fun _ _ _ _ _ _ us hl => match us, hl with | [_, _, _], _ => rfl⟩
    f__law_caught := ⟨fun_of (st := s__law_caught) F__law_caught', He.glo_ok X G (c.d.fact 7 (f := .glo "_law_caught") rfl), (fun_of (st := s__law_caught) F__law_caught').binds (ps := p__law_caught) fun _ _ _ _ _ _ us hl => match us, hl with | [_], _ => rfl⟩
    f_law := ⟨fun_of (st := s_law) F_law', He.glo_ok X G (c.d.fact 8 (f := .glo "law") rfl), (fun_of (st := s_law) F_law').binds (ps := p_law) fun _ _ _ _ _ _ us hl => match us, hl with | [_], _ => rfl⟩
    i_HasCycle := ⟨⟨_, fun_of (st := clsM (top 9) 0) I_HasCycle'⟩, He.glo_ok X G (c.d.fact 9 (f := .glo "HasCycle") rfl), (fun_of (st := clsM (top 9) 0) I_HasCycle').binds (ps := ["self", "cycle"]) fun _ _ _ _ _ _ us hl => match us, hl with | [_, _], _ => rfl, (inB_ok b_HasCycle).1, (inB_ok b_HasCycle).2⟩
    i_InvalidAssignment := ⟨⟨_, fun_of (st := clsM (top 10) 0) I_InvalidAssignment'⟩, He.glo_ok X G (c.d.fact 11 (f := .glo "InvalidAssignment") rfl), (fun_of (st := clsM (top 10) 0) I_InvalidAssignment').binds (ps := ["self", "name"]) fun _ _ _ _ _ _ us hl => match us, hl with | [_, _], _ => rfl, (inB_ok b_InvalidAssignment).1, (inB_ok b_InvalidAssignment).2⟩
    i_InvalidCell := ⟨⟨_, fun_of (st := clsM (top 5) 0) I_InvalidCell'⟩, He.glo_ok X G (c.d.fact 12 (f := .glo "InvalidCell") rfl), (fun_of (st := clsM (top 5) 0) I_InvalidCell').binds (ps := ["self", "index"]) fun _ _ _ _ _ _ us hl => match us, hl with | [_, _], _ => rfl, (inB_ok b_InvalidCell).1, (inB_ok b_InvalidCell).2⟩
    i_InvalidChain := ⟨⟨_, fun_of (st := clsM (top 8) 0) I_InvalidChain'⟩, He.glo_ok X G (c.d.fact 13 (f := .glo "InvalidChain") rfl), (fun_of (st := clsM (top 8) 0) I_InvalidChain').binds (ps := ["self", "index"]) fun _ _ _ _ _ _ us hl => match us, hl with | [_, _], _ => rfl, (inB_ok b_InvalidChain).1, (inB_ok b_InvalidChain).2⟩
    i_InvalidCounts := ⟨⟨_, fun_of (st := clsM (top 15) 0) I_InvalidCounts'⟩, He.glo_ok X G (c.d.fact 14 (f := .glo "InvalidCounts") rfl), (fun_of (st := clsM (top 15) 0) I_InvalidCounts').binds (ps := ["self", "arm"]) fun _ _ _ _ _ _ us hl => match us, hl with | [_, _], _ => rfl, (inB_ok b_InvalidCounts).1, (inB_ok b_InvalidCounts).2⟩
    i_InvalidModule := ⟨⟨_, fun_of (st := clsM (top 11) 0) I_InvalidModule'⟩, He.glo_ok X G (c.d.fact 15 (f := .glo "InvalidModule") rfl), (fun_of (st := clsM (top 11) 0) I_InvalidModule').binds (ps := ["self", "index"]) fun _ _ _ _ _ _ us hl => match us, hl with | [_, _], _ => rfl, (inB_ok b_InvalidModule).1, (inB_ok b_InvalidModule).2⟩
    i_InvalidOrder := ⟨⟨_, fun_of (st := clsM (top 6) 0) I_InvalidOrder'⟩, He.glo_ok X G (c.d.fact 16 (f := .glo "InvalidOrder") rfl), (fun_of (st := clsM (top 6) 0) I_InvalidOrder').binds (ps := ["self", "index"]) fun _ _ _ _ _ _ us hl => match us, hl with | [_, _], _ => rfl, (inB_ok b_InvalidOrder).1, (inB_ok b_InvalidOrder).2⟩
    i_InvalidPlan := ⟨⟨_, fun_of (st := clsM (top 7) 0) I_InvalidPlan'⟩, He.glo_ok X G (c.d.fact 17 (f := .glo "InvalidPlan") rfl), (fun_of (st := clsM (top 7) 0) I_InvalidPlan').binds (ps := ["self", "index"]) fun _ _ _ _ _ _ us hl => match us, hl with | [_, _], _ => rfl, (inB_ok b_InvalidPlan).1, (inB_ok b_InvalidPlan).2⟩
    i_InvalidProgram := ⟨⟨_, fun_of (st := clsM (top 2) 0) I_InvalidProgram'⟩, He.glo_ok X G (c.d.fact 18 (f := .glo "InvalidProgram") rfl), (fun_of (st := clsM (top 2) 0) I_InvalidProgram').binds (ps := ["self", "index"]) fun _ _ _ _ _ _ us hl => match us, hl with | [_, _], _ => rfl, (inB_ok b_InvalidProgram).1, (inB_ok b_InvalidProgram).2⟩
    i_InvalidSignature := ⟨⟨_, fun_of (st := clsM (top 14) 0) I_InvalidSignature'⟩, He.glo_ok X G (c.d.fact 19 (f := .glo "InvalidSignature") rfl), (fun_of (st := clsM (top 14) 0) I_InvalidSignature').binds (ps := ["self", "index"]) fun _ _ _ _ _ _ us hl => match us, hl with | [_, _], _ => rfl, (inB_ok b_InvalidSignature).1, (inB_ok b_InvalidSignature).2⟩
    i_InvalidSweep := ⟨⟨_, fun_of (st := clsM (top 17) 0) I_InvalidSweep'⟩, He.glo_ok X G (c.d.fact 20 (f := .glo "InvalidSweep") rfl), (fun_of (st := clsM (top 17) 0) I_InvalidSweep').binds (ps := ["self", "index"]) fun _ _ _ _ _ _ us hl => match us, hl with | [_, _], _ => rfl, (inB_ok b_InvalidSweep).1, (inB_ok b_InvalidSweep).2⟩
    i_InvalidText := ⟨⟨_, fun_of (st := clsM (top 18) 0) I_InvalidText'⟩, He.glo_ok X G (c.d.fact 21 (f := .glo "InvalidText") rfl), (fun_of (st := clsM (top 18) 0) I_InvalidText').binds (ps := ["self", "line"]) fun _ _ _ _ _ _ us hl => match us, hl with | [_, _], _ => rfl, (inB_ok b_InvalidText).1, (inB_ok b_InvalidText).2⟩
    i_InvalidTree := ⟨⟨_, fun_of (st := clsM (top 16) 0) I_InvalidTree'⟩, He.glo_ok X G (c.d.fact 22 (f := .glo "InvalidTree") rfl), (fun_of (st := clsM (top 16) 0) I_InvalidTree').binds (ps := ["self"]) fun _ _ _ _ _ _ us hl => match us, hl with | [_], _ => rfl, (inB_ok b_InvalidTree).1, (inB_ok b_InvalidTree).2⟩
    i_UnknownArm := ⟨⟨_, fun_of (st := clsM (top 13) 0) I_UnknownArm'⟩, He.glo_ok X G (c.d.fact 23 (f := .glo "UnknownArm") rfl), (fun_of (st := clsM (top 13) 0) I_UnknownArm').binds (ps := ["self", "index"]) fun _ _ _ _ _ _ us hl => match us, hl with | [_, _], _ => rfl, (inB_ok b_UnknownArm).1, (inB_ok b_UnknownArm).2⟩
    i_UnknownFunction := ⟨⟨_, fun_of (st := clsM (top 12) 0) I_UnknownFunction'⟩, He.glo_ok X G (c.d.fact 24 (f := .glo "UnknownFunction") rfl), (fun_of (st := clsM (top 12) 0) I_UnknownFunction').binds (ps := ["self", "name"]) fun _ _ _ _ _ _ us hl => match us, hl with | [_, _], _ => rfl, (inB_ok b_UnknownFunction).1, (inB_ok b_UnknownFunction).2⟩
    i_UnknownStatement := ⟨⟨_, fun_of (st := clsM (top 4) 0) I_UnknownStatement'⟩, He.glo_ok X G (c.d.fact 25 (f := .glo "UnknownStatement") rfl), (fun_of (st := clsM (top 4) 0) I_UnknownStatement').binds (ps := ["self", "name"]) fun _ _ _ _ _ _ us hl => match us, hl with | [_, _], _ => rfl, (inB_ok b_UnknownStatement).1, (inB_ok b_UnknownStatement).2⟩
    i_UnknownValue := ⟨⟨_, fun_of (st := clsM (top 3) 0) I_UnknownValue'⟩, He.glo_ok X G (c.d.fact 26 (f := .glo "UnknownValue") rfl), (fun_of (st := clsM (top 3) 0) I_UnknownValue').binds (ps := ["self", "name"]) fun _ _ _ _ _ _ us hl => match us, hl with | [_, _], _ => rfl, (inB_ok b_UnknownValue).1, (inB_ok b_UnknownValue).2⟩
    c_HasCycle := He.glo_ok X G (c.d.fact 9 (f := .glo "HasCycle") rfl)
    c_InplaceError := He.glo_ok X G (c.d.fact 10 (f := .glo "InplaceError") rfl)
    c_InvalidAssignment := He.glo_ok X G (c.d.fact 11 (f := .glo "InvalidAssignment") rfl)
    c_InvalidCell := He.glo_ok X G (c.d.fact 12 (f := .glo "InvalidCell") rfl)
    c_InvalidChain := He.glo_ok X G (c.d.fact 13 (f := .glo "InvalidChain") rfl)
    c_InvalidCounts := He.glo_ok X G (c.d.fact 14 (f := .glo "InvalidCounts") rfl)
    c_InvalidModule := He.glo_ok X G (c.d.fact 15 (f := .glo "InvalidModule") rfl)
    c_InvalidOrder := He.glo_ok X G (c.d.fact 16 (f := .glo "InvalidOrder") rfl)
    c_InvalidPlan := He.glo_ok X G (c.d.fact 17 (f := .glo "InvalidPlan") rfl)
    c_InvalidProgram := He.glo_ok X G (c.d.fact 18 (f := .glo "InvalidProgram") rfl)
    c_InvalidSignature := He.glo_ok X G (c.d.fact 19 (f := .glo "InvalidSignature") rfl)
    c_InvalidSweep := He.glo_ok X G (c.d.fact 20 (f := .glo "InvalidSweep") rfl)
    c_InvalidText := He.glo_ok X G (c.d.fact 21 (f := .glo "InvalidText") rfl)
    c_InvalidTree := He.glo_ok X G (c.d.fact 22 (f := .glo "InvalidTree") rfl)
    c_UnknownArm := He.glo_ok X G (c.d.fact 23 (f := .glo "UnknownArm") rfl)
    c_UnknownFunction := He.glo_ok X G (c.d.fact 24 (f := .glo "UnknownFunction") rfl)
    c_UnknownStatement := He.glo_ok X G (c.d.fact 25 (f := .glo "UnknownStatement") rfl)
    c_UnknownValue := He.glo_ok X G (c.d.fact 26 (f := .glo "UnknownValue") rfl)
    xt := xtB_ok b_xt
    ba := baB_ok b_ba
  }
  have N : Blt mg := ⟨He.free_ok X G (c.d.fact 27 (f := .free "ValueError") rfl), He.free_ok X G (c.d.fact 28 (f := .free "abs") rfl), He.free_ok X G (c.d.fact 29 (f := .free "enumerate") rfl), He.free_ok X G (c.d.fact 30 (f := .free "int") rfl), He.free_ok X G (c.d.fact 31 (f := .free "isinstance") rfl), He.free_ok X G (c.d.fact 32 (f := .free "len") rfl), He.free_ok X G (c.d.fact 33 (f := .free "min") rfl), He.free_ok X G (c.d.fact 34 (f := .free "range") rfl), He.free_ok X G (c.d.fact 35 (f := .free "repr") rfl)⟩
  have b := FunD.bindsA (ps := p_law) F_law' fun _ _ _ _ _ _ us hl => match us, hl with | [_], _ => rfl
  exact ⟨_, fun s v => b s [v] rfl, fun base _ _ => ok_law T N⟩
end K
open PySem PySem.W PySem.Calls PyProof.Rows
set_option maxHeartbeats 0 in
theorem PySem.Challenge.cw_inplace_k05_errors_holds : PySem.Challenge.rw_inplace_k05_errors.Holds := by
  w_on; o_law
  refine HandSHeadRun.head_any (r := OpenLaw.row PySem.Challenge.rw_inplace_k05_errors) (q := view (OpenLaw.row PySem.Challenge.rw_inplace_k05_errors).prog [28]) (H := K.hk) (ob := K.ob) (M := 6000) (loose := K.names) (d := HandSHeadRun.topDef (OpenLaw.row PySem.Challenge.rw_inplace_k05_errors).prog 28) (kwd := []) K.ob_eq
    (by kernel_rfl) (fun s => by kernel_rfl) K.run (by kernel_rfl) (by kernel_rfl) (by kernel_rfl) (by rfl) (by first | assumption | decide +kernel) (by decide +kernel) ⟨rfl, rfl, rfl, rfl, rfl, by decide +kernel⟩ ?hw ?hc
  case hw => w_witness2
  case hc =>
    refine G.walk_G (l := PySem.Challenge.rw_inplace_k05_errors) (n := 63) (k := 4) (x := "_law_script") rfl (by decide) (by kernel_rfl) ⟨rfl, by decide, by decide⟩ ?F
    intro w mg fa h Y G hmg0
    obtain ⟨K1, KX, c⟩ := Y
    have hmg : mg ("law" : PySem.Str) = some (.ref fa) := by
      have e : (HandSHeadRun.topDef (OpenLaw.row PySem.Challenge.rw_inplace_k05_errors).prog 28).name = ("law" : PySem.Str) := by kernel_rfl
      rw [← e]
      exact hmg0
    obtain ⟨fd, hb, hF⟩ := K.facts (w := w) KX G hmg c
    exact ⟨K1, fd, K.spLaw, KX, c.l, hb, fun H a ns o hl h1 h2 => ⟨a, ns, o, rfl, hl, h1, h2, fun _ => rfl⟩, hF⟩

