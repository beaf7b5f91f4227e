import PyProof.Rows.All
import Wide.All
import OpenK.AllK
import Wide.FinOn
import HandS.ForMost
import HandS.Deep
import HandS.TupLe
import HandS.Walk
import HandS.TupAny
import HandS.Lambda
import KE.SortKeyHeap
import KE.KeyNested
import PyProof.P3Eq
import HandS.SortOrd
import HandS.Dict
import HandS.More
import HandS.IsInst
import HandS.Conv
import PyProof.ReprRoads
import KE.GoesEnum
import HandS.Zip
import HandS.Iter
import HandS.Codes
import HandS.Defaults
import HandS.GenList
import HandS.AnyAll
import HandS.DictComp
import HandS.SortKw
import KE.DataFind
import HandS.TupSets
import KE.SortData
import KE.SortCalls
import PyProof.Rows.SortWalk
import HandS.HeadHook4
import HandS.EndTab
import HandS.NestedK
import KE.KStateDown
import Lean
import HandS.Head0
import HandS.Head1
import HandS.Head2
import HandS.HeadEnd
import HandS.HeadHook1
import HandS.HeadHook2
import HandS.HeadHook3
import HandS.HeadWalk
import PyProof.ReprBulk
import PyProof.FitsInt
import PyProof.Rows.ReprOcc
import PySem.Challenge.RW_leaftold_k03_whole_some_leaves_alone
set_option Elab.async false
set_option linter.all false
set_option maxRecDepth 100000
section
/-! Mp: a small functional reading of the Python subset that the laws use: data D, expressions T, statements C, their evaluator. -/
namespace Mp
open PySem

inductive D where
  | non | bl (b : Bool) | int (i : Int) | str (s : Str)
  | tup (xs : List D) | lst (xs : List D)
  | st | gl (x : Str)
  | dic (ks : List L2.Key) (vs : List D)
  | clo (x : Str) (caps : List D)
  deriving Inhabited

mutual
def py : D → PyData
  | .non => .none
  | .bl b => .bool b
  | .int i => .int i
  | .str s => .str s
  | .tup xs => .tuple (pys xs)
  | .lst xs => .list (pys xs)
  | _ => .dict []
def pys : List D → List PyData
  | [] => []
  | x :: xs => py x :: pys xs
end

/-- the state of the draws -/
structure S where
  cells : List Int
  lefts : List Int
  at_ : Int

/-- an exception: its class, its fields -/
structure Ex where
  cls : Str
  fs : List (Str × D)

inductive R (α : Type) where
  | ok (a : α) (s : S)
  | exc (x : Ex) (s : S)
  | no

abbrev M (α : Type) := S → R α
section
variable {α β : Type}
def ret (a : α) : M α := fun s => .ok a s
def no : M α := fun _ => .no
def bnd (m : M α) (f : α → M β) : M β := fun s => match m s with
  | .ok a s' => f a s'
  | .exc x s' => .exc x s'
  | .no => .no
def ofO : Option α → M α
  | some a => ret a
  | none => no
@[simp] theorem bnd_ret (a : α) (f : α → M β) : bnd (ret a) f = f a := rfl
@[simp] theorem bnd_no (f : α → M β) : bnd no f = no := rfl
@[simp] theorem ofO_some (a : α) : ofO (some a) = ret a := rfl
@[simp] theorem ofO_none : ofO (none : Option α) = no := rfl
@[simp] theorem bnd_assoc {γ : Type} (m : M α) (f : α → M β) (g : β → M γ) : bnd (bnd m f) g = bnd m fun a => bnd (f a) g := by
  funext s
  unfold bnd
  cases m s <;> rfl
end

/-! ### order and equality -/
def rk : D → Nat
  | .int _ => 0
  | .str _ => 1
  | .tup _ => 2
  | _ => 3
def cmI (a b : Int) : Ordering := if a < b then .lt else if b < a then .gt else .eq
def cmN (a b : Nat) : Ordering := if a < b then .lt else if b < a then .gt else .eq
def cmS (a b : List Nat) : Ordering := if a < b then .lt else if b < a then .gt else .eq
mutual
def cmD : D → D → Ordering
  | .int a, .int b => cmI a b
  | .str a, .str b => cmS a.cps.toList b.cps.toList
  | .tup xs, .tup ys => cmDs xs ys
  | d, e => cmN (rk d) (rk e)
def cmDs : List D → List D → Ordering
  | [], [] => .eq
  | [], _ :: _ => .lt
  | _ :: _, [] => .gt
  | x :: xs, y :: ys => (cmD x y).then (cmDs xs ys)
end
def ltD (d e : D) : Bool := cmD d e == .lt
mutual
/-- two that Python compares -/
def okO : D → D → Bool
  | .int _, .int _ => true
  | .str _, .str _ => true
  | .tup xs, .tup ys => okOs xs ys
  | _, _ => false
def okOs : List D → List D → Bool
  | [], _ => true
  | _ :: _, [] => true
  | x :: xs, y :: ys => okO x y && okOs xs ys
end
/-- each two compare -/
def okAll (xs : List D) : Bool := xs.all fun x => xs.all fun y => okO x y
/-- a tuple that is not empty -/
def neTup : D → Bool
  | .tup (_ :: _) => true
  | _ => false
def noTup : D → Bool
  | .int _ => true
  | .str _ => true
  | _ => false
def sortD (xs : List D) : List D := xs.mergeSort (PySem.W.dataLe false py)
/-- by keys: each with its key ahead -/
def sortK (xs : List (D × D)) : List (D × D) := xs.mergeSort (PySem.W.dataLe false fun p => py p.1)
/-- each once, the first of those alike -/
def nubD : List D → List D
  | [] => []
  | x :: xs => x :: (nubD xs).filter fun y => cmD x y != .eq
def shp (d : D) : Bool := SeqAt.shaped (py d)
/-- what may be sorted -/
def srtOk (xs : List D) : Bool := okAll xs && xs.all shp && (xs.all neTup || xs.all noTup)
mutual
/-- ints, and tuples of such -/
def numD : D → Bool
  | .int _ => true
  | .tup xs => numDs xs
  | _ => false
def numDs : List D → Bool
  | [] => true
  | x :: xs => numD x && numDs xs
end
mutual
/-- as a set's member -/
def kD : D → NestedKey
  | .int i => .num i
  | .tup xs => .tup (kDs xs)
  | _ => .none
def kDs : List D → List NestedKey
  | [] => []
  | x :: xs => kD x :: kDs xs
end
/-- a member of a set -/
def memOk (d : D) : Bool := neTup d && numD d && decide ((kD d).depth ≤ 8)
def eqv (d e : D) : Bool := PyData.eqv (py d) (py e)
def eqD (d e : D) : Option Bool := if shp d && shp e then some (eqv d e) else none
mutual
/-- what may change within -/
def mutD : D → Bool
  | .lst _ => true
  | .dic _ _ => true
  | .clo _ xs => mutDs xs
  | .tup xs => mutDs xs
  | _ => false
def mutDs : List D → Bool
  | [] => false
  | x :: xs => mutD x || mutDs xs
end
mutual
/-- no closure within -/
def noC : D → Bool
  | .clo _ _ => false
  | .tup xs => noCs xs
  | .lst xs => noCs xs
  | .dic _ xs => noCs xs
  | _ => true
def noCs : List D → Bool
  | [] => true
  | x :: xs => noC x && noCs xs
end
def elImm : D → Bool
  | .lst xs => !mutDs xs
  | _ => false
def isLst : D → Bool
  | .lst _ => true
  | _ => false

/-! ### operations -/
def truthD : D → Option Bool
  | .non => some false
  | .bl b => some b
  | .int i => some (i != 0)
  | .tup xs => some (!xs.isEmpty)
  | .lst xs => some (!xs.isEmpty)
  | _ => none
def binD : Operator → D → D → Option D
  | .Add, .int a, .int b => some (.int (a + b))
  | .Sub, .int a, .int b => some (.int (a - b))
  | .Mult, .int a, .int b => if (-(2 ^ 64) < a ∧ a < 2 ^ 64) ∨ (-(2 ^ 64) < b ∧ b < 2 ^ 64) then some (.int (a * b)) else none
  | .FloorDiv, .int a, .int b => if 0 < b ∧ b < 1073741824 then some (.int (a / b)) else none
  | .Mod, .int a, .int b => if 0 < b then some (.int (a % b)) else none
  | .Add, .tup xs, .tup ys => if xs.length + ys.length ≤ sizeLine then some (.tup (xs ++ ys)) else none
  | .Add, .lst xs, .lst ys => if xs.length + ys.length ≤ sizeLine then some (.lst (xs ++ ys)) else none
  | _, _, _ => none
def hasK (k : L2.Key) : List L2.Key → Bool
  | [] => false
  | a :: r => decide (a = k) || hasK k r
def getK (k : L2.Key) : List L2.Key → List D → Option D
  | a :: ks, x :: xs => if a = k then some x else getK k ks xs
  | _, _ => none
def isNonD : D → Bool
  | .non => true
  | _ => false
/-- a dict's key -/
def keyD : D → Option L2.Key
  | .int i => some (.inl i)
  | .str s => some (.inr s)
  | _ => none
def cmpD : CmpOp → D → D → Option Bool
  | .Eq, d, e => eqD d e
  | .NotEq, d, e => (eqD d e).map (!·)
  | .Lt, d, e => if okO d e && (shp d && shp e) then some (ltD d e) else none
  | .Gt, d, e => if okO d e && (shp d && shp e) then some (ltD e d) else none
  | .LtE, d, e => if okO d e && (shp d && shp e) then some (!ltD e d) else none
  | .GtE, d, e => if okO d e && (shp d && shp e) then some (!ltD d e) else none
  | .In, d, .dic ks _ => (keyD d).map fun k => hasK k ks
  | .NotIn, d, .dic ks _ => (keyD d).map fun k => !hasK k ks
  | .In, d, .lst xs => if shp d && shp (.lst xs) then some (xs.any fun z => eqv z d) else none
  | .In, d, .tup xs => if shp d && shp (.tup xs) then some (xs.any fun z => eqv z d) else none
  | .NotIn, d, .lst xs => if shp d && shp (.lst xs) then some (!xs.any fun z => eqv z d) else none
  | .NotIn, d, .tup xs => if shp d && shp (.tup xs) then some (!xs.any fun z => eqv z d) else none
  | .Is, d, .non => some (isNonD d)
  | .IsNot, d, .non => some (!isNonD d)
  | _, _, _ => none
def ixD : D → D → Option D
  | .tup xs, .int i => L2.atI xs i
  | .lst xs, .int i => L2.atI xs i
  | .dic ks vs, d => (keyD d).bind fun k => getK k ks vs
  | _, _ => none
def cutD (xs : List D) (lo hi : Option Int) : List D := (xs.drop (HT.sIx xs.length 0 lo)).take (HT.sIx xs.length xs.length hi - HT.sIx xs.length 0 lo)
def slD : D → Option Int → Option Int → Option D
  | .tup xs, lo, hi => some (.tup (cutD xs lo hi))
  | .lst xs, lo, hi => some (.lst (cutD xs lo hi))
  | _, _, _ => none
def intD : D → Option Int
  | .int i => some i
  | _ => none
def blD : D → Option Bool
  | .bl b => some b
  | _ => none
def lenD : D → Option D
  | .tup xs => some (.int xs.length)
  | .lst xs => some (.int xs.length)
  | _ => none
def tyN : D → Option String
  | .non => some "NoneType"
  | .int _ => some "int"
  | .bl _ => some "bool"
  | .tup _ => some "tuple"
  | .str _ => some "str"
  | .lst _ => some "list"
  | .dic _ _ => some "dict"
  | _ => none
def tyNames : List String := ["NoneType", "int", "bool", "tuple", "str", "list", "dict"]
def tyIs (n t : String) : Bool := n == t || (n == "bool" && t == "int")
def tyD (d : D) (t : String) : Option Bool := match tyN d with
  | some n => if tyNames.contains t then some (tyIs n t) else none
  | none => none

/-! ### what is walked -/
inductive IK where
  | val | rng | enm | zip
  deriving DecidableEq
def rngL (a b : Int) : List D := (List.range (b - a).toNat).map fun (i : Nat) => D.int (a + i)
def smallI (a : Int) : Bool := decide (-(2 ^ 62) ≤ a ∧ a < 2 ^ 62)
def enmL : Nat → List D → List D
  | _, [] => []
  | i, x :: xs => .tup [.int i, x] :: enmL (i + 1) xs
def seqL : D → Option (List D)
  | .tup xs => some xs
  | .lst xs => some xs
  | _ => none
def itD : IK → List D → Option (List D)
  | .val, [d] => seqL d
  | .rng, [.int b] => if smallI b then some (rngL 0 b) else none
  | .rng, [.int a, .int b] => if smallI a && smallI b then some (rngL a b) else none
  | .enm, [d] => (seqL d).map (enmL 0)
  | .zip, [d, e] => match seqL d, seqL e with
    | some xs, some ys => some ((xs.zip ys).map fun p => .tup [p.1, p.2])
    | _, _ => none
  | _, _ => none

/-! ### expressions -/
inductive G where
  | nm (i : Nat)
  | tp (gs : List G)
mutual
def slotsG : G → List Nat
  | .nm i => [i]
  | .tp gs => slotsGs gs
def slotsGs : List G → List Nat
  | [] => []
  | g :: gs => slotsG g ++ slotsGs gs
end
inductive BI where
  | len | tup | lst | srt | srts | rep | int | min | max
  deriving DecidableEq
inductive T where
  | never
  | var (i : Nat) | con (d : D) | gint (x : Str) (i : Int)
  | neg (a : T) | nt (a : T)
  | bin (op : Operator) (a b : T)
  | cmp (op : CmpOp) (a b : T)
  | chn (o p : CmpOp) (a b c : T)
  | an (a b : T) | orr (a b : T) | ite (c a b : T)
  | tup (es : List T) | lst (es : List T)
  | ix (a i : T) | sl (a : T) (lo hi : Option T)
  | call (x : Str) (es : List T) (perm : List Nat)
  | bi (b : BI) (es : List T)
  | rgc (tupl : Bool) (es : List T)
  | srtk (x : Str) (a : T)
  | isi (a : T) (t : String)
  | lc (g : G) (k : IK) (its : List T) (ifs : Option T) (elt : T)
  | aal (all : Bool) (g : G) (k : IK) (its : List T) (elt : T)
  | dc (g : G) (k : IK) (its : List T) (ke ve : T)
  | callL (x : Str) (es : List T) (lx : Str) (caps : List Nat)
  | callv (i : Nat) (es : List T)
  | stA (j : Nat) | stN (j : Nat) | stI (c : Bool) (j : Nat) (t : T)

abbrev Slot := D × Bool
abbrev Env := List (Option Slot)
def getE (ρ : Env) (i : Nat) : Option D := match ρ[i]? with
  | some (some (d, _)) => some d
  | _ => none
def cloD : D → Option (Str × List D)
  | .clo x cs => some (x, cs)
  | _ => none
def getEs (ρ : Env) : List Nat → Option (List D)
  | [] => some []
  | i :: r => (getE ρ i).bind fun d => (getEs ρ r).map (d :: ·)
mutual
def bindG : G → D → Env → Option Env
  | .nm i, d, ρ => some (ρ.set i (some (d, false)))
  | .tp gs, .tup ds, ρ => bindGs gs ds ρ
  | .tp _, _, _ => none
def bindGs : List G → List D → Env → Option Env
  | [], [], ρ => some ρ
  | g :: gs, d :: ds, ρ => (bindG g d ρ).bind fun ρ' => bindGs gs ds ρ'
  | _, _, _ => none
end
section
variable {α β : Type}
def colM (f : α → M (Option β)) : List α → M (List β)
  | [] => ret []
  | d :: ds => bnd (f d) fun o => bnd (colM f ds) fun r => ret (match o with | some x => x :: r | none => r)
/-- all (al), any (not al) -/
def quM (al : Bool) (f : α → M Bool) : List α → M Bool
  | [] => ret al
  | d :: ds => bnd (f d) fun b => if b = al then quM al f ds else ret (!al)
def mapM' (f : α → M β) : List α → M (List β)
  | [] => ret []
  | d :: ds => bnd (f d) fun o => bnd (mapM' f ds) fun r => ret (o :: r)
/-- no exception leaves -/
def nox (m : M α) : M α := fun s => match m s with
  | .exc _ _ => .no
  | r => r
@[simp] theorem nox_ret (a : α) : nox (ret a) = ret a := rfl
@[simp] theorem nox_no : nox (no : M α) = no := rfl
/-- a dict's store -/
def putD (k : L2.Key) (v : D) : List L2.Key → List D → List D
  | k' :: ks, w :: ws => if k' = k then v :: ws else w :: putD k v ks ws
  | _, _ => [v]
def addK (k : L2.Key) (ks : List L2.Key) : List L2.Key := if hasK k ks then ks else ks ++ [k]
def dicM (f : α → M (D × D)) : List α → List L2.Key → List D → M D
  | [], ks, vs => ret (.dic ks vs)
  | d :: ds, ks, vs => bnd (f d) fun p => bnd (ofO (keyD p.1)) fun k => dicM f ds (addK k ks) (putD k p.2 ks vs)
end
abbrev Gam := Str → List D → M D
def pickL {γ : Type} : List Nat → List γ → Option (List γ)
  | [], _ => some []
  | i :: r, ds => ds[i]?.bind fun d => (pickL r ds).map (d :: ·)
def permL {γ : Type} (perm : List Nat) (ds : List γ) : Option (List γ) := match perm with
  | [] => some ds
  | i :: r => pickL (i :: r) ds
def lstD : D → Option (List D)
  | .lst xs => some xs
  | _ => none
/-- built-in functions by values -/
def bi1 : BI → D → Option D
  | .len, d => lenD d
  | .tup, d => (seqL d).map .tup
  | .lst, d => (seqL d).map .lst
  | .int, .int i => some (.int i)
  | .rep, d => if (seqL d).isSome && (py d).showable && shp d && decide ((py d).shown.length ≤ sizeLine) then some (.str (py d).shown) else none
  | .srt, .lst xs => if srtOk xs then some (.lst (sortD xs)) else none
  | .srts, .lst xs => if srtOk xs && xs.all memOk && decide (xs.length < 64) then some (.lst (sortD (nubD xs))) else none
  | _, _ => none
def bi2 : BI → D → D → Option D
  | .min, .int i, .int j => some (.int (if j < i then j else i))
  | .max, .int i, .int j => some (.int (if j > i then j else i))
  | _, _, _ => none
def biD (b : BI) : List D → Option D
  | [d] => bi1 b d
  | [d, e] => bi2 b d e
  | _ => none
/-- the draws' state stands in slot j -/
def isSt (ρ : Env) (j : Nat) : Option Unit := match getE ρ j with
  | some .st => some ()
  | _ => none
def getS (f : S → Option D) : M D := fun s => match f s with
  | some d => .ok d s
  | none => .no
def putS (f : S → Option S) : M Unit := fun s => match f s with
  | some s' => .ok () s'
  | none => .no
mutual
def ev (Γ : Gam) (ρ : Env) : T → M D
  | .never => no
  | .var i => ofO (getE ρ i)
  | .con d => ret d
  | .gint _ i => ret (.int i)
  | .neg a => bnd (ev Γ ρ a) fun x => bnd (ofO (intD x)) fun i => ret (.int (-i))
  | .nt a => bnd (ev Γ ρ a) fun x => bnd (ofO (blD x)) fun b => ret (.bl (!b))
  | .bin op a b => bnd (ev Γ ρ a) fun x => bnd (ev Γ ρ b) fun y => ofO (binD op x y)
  | .cmp op a b => bnd (ev Γ ρ a) fun x => bnd (ev Γ ρ b) fun y => bnd (ofO (cmpD op x y)) fun c => ret (.bl c)
  | .chn o p a b c => bnd (ev Γ ρ a) fun x => bnd (ev Γ ρ b) fun y => bnd (ofO (cmpD o x y)) fun k =>
      if k then bnd (ev Γ ρ c) fun z => bnd (ofO (cmpD p y z)) fun c => ret (.bl c) else ret (.bl false)
  | .an a b => bnd (ev Γ ρ a) fun x => bnd (ofO (blD x)) fun c => if c then ev Γ ρ b else ret (.bl false)
  | .orr a b => bnd (ev Γ ρ a) fun x => bnd (ofO (blD x)) fun c => if c then ret (.bl true) else ev Γ ρ b
  | .ite c a b => bnd (tst Γ ρ c) fun k => if k then ev Γ ρ a else ev Γ ρ b
  | .tup es => bnd (evs Γ ρ es) fun xs => if xs.length ≤ sizeLine then ret (.tup xs) else no
  | .lst es => bnd (evs Γ ρ es) fun xs => if xs.length ≤ sizeLine then ret (.lst xs) else no
  | .ix a i => bnd (ev Γ ρ a) fun x => bnd (ev Γ ρ i) fun y => ofO (ixD x y)
  | .sl a lo hi => bnd (ev Γ ρ a) fun x => bnd (evo Γ ρ lo) fun l => bnd (evo Γ ρ hi) fun h => ofO (slD x l h)
  | .call x es perm => bnd (evs Γ ρ es) fun ds => bnd (ofO (permL perm ds)) fun as => Γ x as
  | .bi b es => bnd (evs Γ ρ es) fun ds => ofO (biD b ds)
  | .rgc tupl es => bnd (evs Γ ρ es) fun ds => bnd (ofO (itD .rng ds)) fun xs => if xs.length ≤ sizeLine then ret (if tupl then .tup xs else .lst xs) else no
  | .srtk x a => bnd (ev Γ ρ a) fun d => bnd (ofO (lstD d)) fun xs => bnd (nox (mapM' (fun d => Γ x [d]) xs)) fun ks =>
      if srtOk ks then ret (.lst ((sortK (ks.zip xs)).map (·.2))) else no
  | .isi a t => bnd (ev Γ ρ a) fun x => bnd (ofO (tyD x t)) fun b => ret (.bl b)
  | .lc g k its ifs elt => bnd (evs Γ ρ its) fun ds => bnd (ofO (itD k ds)) fun xs => bnd (nox (colM (fun d => bnd (ofO (bindG g d ρ)) fun ρ' =>
      bnd (tsto Γ ρ' ifs) fun c => if c then bnd (ev Γ ρ' elt) fun y => ret (some y) else ret none) xs)) fun ys => if xs.length ≤ sizeLine then ret (.lst ys) else no
  | .aal all g k its elt => bnd (evs Γ ρ its) fun ds => bnd (ofO (itD k ds)) fun xs =>
      bnd (nox (quM all (fun d => bnd (ofO (bindG g d ρ)) fun ρ' => bnd (ev Γ ρ' elt) fun y => ofO (blD y)) xs)) fun b => ret (.bl b)
  | .dc g k its ke ve => bnd (evs Γ ρ its) fun ds => bnd (ofO (itD k ds)) fun xs => bnd (nox (dicM (fun d => bnd (ofO (bindG g d ρ)) fun ρ' =>
      bnd (ev Γ ρ' ke) fun y => bnd (ev Γ ρ' ve) fun z => ret (y, z)) xs [] [])) fun d => if xs.length ≤ sizeLine then ret d else no
  | .callL x es lx caps => bnd (evs Γ ρ es) fun ds => bnd (ofO (getEs ρ caps)) fun cs => bnd (nox (Γ x (ds ++ [.clo lx cs]))) fun d => if noC d then ret d else no
  | .callv i es => bnd (ofO ((getE ρ i).bind cloD)) fun f => bnd (evs Γ ρ es) fun ds => if noCs ds && noCs f.2 then Γ f.1 (ds ++ f.2) else no
  | .stA j => bnd (ofO (isSt ρ j)) fun _ => getS fun s => some (.int s.at_)
  | .stN j => bnd (ofO (isSt ρ j)) fun _ => getS fun s => some (.int s.cells.length)
  | .stI c j t => bnd (ofO (isSt ρ j)) fun _ => bnd (ev Γ ρ t) fun d => bnd (ofO (intD d)) fun i => getS fun s => (L2.atI (if c then s.cells else s.lefts) i).map .int
termination_by structural t => t
/-- as a test -/
def tst (Γ : Gam) (ρ : Env) : T → M Bool
  | .nt a => bnd (tst Γ ρ a) fun b => ret (!b)
  | .an a b => bnd (tst Γ ρ a) fun c => if c then tst Γ ρ b else ret false
  | .orr a b => bnd (tst Γ ρ a) fun c => if c then ret true else tst Γ ρ b
  | .cmp op a b => bnd (ev Γ ρ a) fun x => bnd (ev Γ ρ b) fun y => ofO (cmpD op x y)
  | .chn o p a b c => bnd (ev Γ ρ a) fun x => bnd (ev Γ ρ b) fun y => bnd (ofO (cmpD o x y)) fun k =>
      if k then bnd (ev Γ ρ c) fun z => ofO (cmpD p y z) else ret false
  | .never => no
  | .var i => bnd (ofO (getE ρ i)) fun x => ofO (truthD x)
  | .call x es perm => bnd (evs Γ ρ es) fun ds => bnd (ofO (permL perm ds)) fun as => bnd (Γ x as) fun x => ofO (truthD x)
  | .isi a t => bnd (ev Γ ρ a) fun x => ofO (tyD x t)
  | .aal all g k its elt => bnd (evs Γ ρ its) fun ds => bnd (ofO (itD k ds)) fun xs =>
      nox (quM all (fun d => bnd (ofO (bindG g d ρ)) fun ρ' => bnd (ev Γ ρ' elt) fun y => ofO (blD y)) xs)
  | .callv i es => bnd (ofO ((getE ρ i).bind cloD)) fun f => bnd (evs Γ ρ es) fun ds => bnd (if noCs ds && noCs f.2 then Γ f.1 (ds ++ f.2) else no) fun x => ofO (truthD x)
  | .ix a i => bnd (ev Γ ρ a) fun x => bnd (ev Γ ρ i) fun y => bnd (ofO (ixD x y)) fun x => ofO (truthD x)
  | _ => no
termination_by structural t => t
def evs (Γ : Gam) (ρ : Env) : List T → M (List D)
  | [] => ret []
  | e :: es => bnd (ev Γ ρ e) fun x => bnd (evs Γ ρ es) fun xs => ret (x :: xs)
termination_by structural t => t
def evo (Γ : Gam) (ρ : Env) : Option T → M (Option Int)
  | none => ret none
  | some e => bnd (ev Γ ρ e) fun x => bnd (ofO (intD x)) fun i => ret (some i)
termination_by structural t => t
def tsto (Γ : Gam) (ρ : Env) : Option T → M Bool
  | none => ret true
  | some e => tst Γ ρ e
termination_by structural t => t
end

mutual
/-- the slots that an expression reads -/
def vars : T → List Nat
  | .var i => [i]
  | .neg a => vars a
  | .nt a => vars a
  | .bin _ a b => vars a ++ vars b
  | .cmp _ a b => vars a ++ vars b
  | .chn _ _ a b c => vars a ++ (vars b ++ vars c)
  | .an a b => vars a ++ vars b
  | .orr a b => vars a ++ vars b
  | .ite c a b => vars c ++ (vars a ++ vars b)
  | .tup es => varss es
  | .lst es => varss es
  | .ix a i => vars a ++ vars i
  | .sl a lo hi => vars a ++ (varso lo ++ varso hi)
  | .call _ es _ => varss es
  | .bi _ es => varss es
  | .rgc _ es => varss es
  | .srtk _ a => vars a
  | .isi a _ => vars a
  | .lc g _ its ifs elt => varss its ++ ((varso ifs ++ vars elt).filter fun i => !(slotsG g).contains i)
  | .aal _ g _ its elt => varss its ++ ((vars elt).filter fun i => !(slotsG g).contains i)
  | .dc g _ its ke ve => varss its ++ ((vars ke ++ vars ve).filter fun i => !(slotsG g).contains i)
  | .callL _ es _ caps => varss es ++ caps
  | .callv i es => i :: varss es
  | .stA j => [j]
  | .stN j => [j]
  | .stI _ j t => j :: vars t
  | _ => []
termination_by structural t => t
def varss : List T → List Nat
  | [] => []
  | e :: es => vars e ++ varss es
termination_by structural t => t
def varso : Option T → List Nat
  | none => []
  | some e => vars e
termination_by structural t => t
end
/-- whose value, if it is a list, is a new one -/
def fresh : T → Bool
  | .lst _ => true
  | .lc .. => true
  | .bin .Add _ _ => true
  | .bi .lst _ => true
  | .rgc _ _ => true
  | .sl .. => true
  | .bi .srt _ => true
  | .bi .srts _ => true
  | .srtk .. => true
  | _ => false

/-! ### statements -/
inductive C where
  | never | pas | brk | cnt
  | asg (g : G) (t : T)
  | par (i j : Nat) (a b : T)
  | aug (i : Nat) (op : Operator) (t : T)
  | iff (c : T) (a b : List C)
  | for_ (g : G) (k : IK) (its : List T) (b : List C)
  | ret (t : T)
  | exp (t : T)
  | app (i : Nat) (t : T)
  | rem (i : Nat) (t : T)
  | stAt (j : Nat) (t : T)
  | stL (j : Nat) (p t : T)
inductive Out where
  | nx (ρ : Env) | rt (d : D) | bk (ρ : Env) | ct (ρ : Env)
def disown (vs : List Nat) (ρ : Env) : Env := ρ.mapIdx fun i o => match o with
  | some (d, b) => some (d, b && !vs.contains i)
  | none => none
/-- the slots behind an expression that gave d -/
def after (t : T) (d : D) (ρ : Env) : Env := if mutD d && !(fresh t && elImm d) then disown (vars t) ρ else ρ
def afters (ts : List T) (ds : List D) (ρ : Env) : Env := if mutDs ds then disown (varss ts) ρ else ρ
def ownL (ρ : Env) (i : Nat) : Option (List D) := match ρ[i]? with
  | some (some (.lst ds, true)) => some ds
  | _ => none
def remD (d : D) : List D → Option (List D)
  | [] => none
  | x :: xs => if eqv x d then some xs else (remD d xs).map (x :: ·)
def loopC (f : D → Env → M Out) : List D → Env → M Out
  | [], ρ => ret (.nx ρ)
  | d :: ds, ρ => bnd (f d ρ) fun o => match o with
    | .nx ρ' => loopC f ds ρ'
    | .ct ρ' => loopC f ds ρ'
    | .bk ρ' => ret (.nx ρ')
    | .rt v => ret (.rt v)
mutual
def evC (Γ : Gam) : C → Env → M Out
  | .never, _ => no
  | .pas, ρ => ret (.nx ρ)
  | .brk, ρ => ret (.bk ρ)
  | .cnt, ρ => ret (.ct ρ)
  | .asg (.nm i) t, ρ => bnd (ev Γ ρ t) fun d => ret (.nx ((after t d ρ).set i (some (d, fresh t && isLst d))))
  | .asg g t, ρ => bnd (ev Γ ρ t) fun d => bnd (ofO (bindG g d (after t d ρ))) fun ρ' => ret (.nx ρ')
  | .par i j a b, ρ => bnd (ev Γ ρ a) fun x => bnd (ev Γ (after a x ρ) b) fun y =>
      ret (.nx (((after b y (after a x ρ)).set j (some (y, fresh b && isLst y))).set i (some (x, fresh a && isLst x))))
  | .aug i op t, ρ => bnd (ofO (getE ρ i)) fun x => bnd (ev Γ ρ t) fun y => match x, y with
      | .int _, .int _ => bnd (ofO (binD op x y)) fun z => ret (.nx (ρ.set i (some (z, false))))
      | _, _ => no
  | .iff c a b, ρ => bnd (tst Γ ρ c) fun k => if k then evCs Γ a ρ else evCs Γ b ρ
  | .for_ g k its b, ρ => bnd (evs Γ ρ its) fun ds => bnd (ofO (itD k ds)) fun xs =>
      loopC (fun d ρ => bnd (ofO (bindG g d ρ)) fun ρ' => evCs Γ b ρ') xs (afters its ds ρ)
  | .ret t, ρ => bnd (ev Γ ρ t) fun d => ret (.rt d)
  | .exp t, ρ => bnd (ev Γ ρ t) fun _ => ret (.nx ρ)
  | .app i t, ρ => bnd (ofO (ownL ρ i)) fun ds => bnd (ev Γ ρ t) fun d =>
      if ds.length < sizeLine ∧ (mutD d = true → i ∉ vars t) then ret (.nx ((if mutD d then disown (vars t) ρ else ρ).set i (some (.lst (ds ++ [d]), true)))) else no
  | .rem i t, ρ => bnd (ofO (ownL ρ i)) fun ds => bnd (ev Γ ρ t) fun d =>
      if shp d && shp (.lst ds) then bnd (ofO (remD d ds)) fun ds' => ret (.nx (ρ.set i (some (.lst ds', true)))) else no
  | .stAt j t, ρ => bnd (ev Γ ρ t) fun d => bnd (ofO (isSt ρ j)) fun _ => bnd (ofO (intD d)) fun i => bnd (putS fun s => if 0 ≤ i then some { s with at_ := i } else none) fun _ => ret (.nx ρ)
  | .stL j p t, ρ => bnd (ev Γ ρ t) fun d => bnd (ofO (isSt ρ j)) fun _ => bnd (ev Γ ρ p) fun e => bnd (ofO (intD d)) fun i => bnd (ofO (intD e)) fun k =>
      bnd (putS fun s => if 0 ≤ k ∧ k < s.lefts.length then some { s with lefts := s.lefts.set k.toNat i } else none) fun _ => ret (.nx ρ)
termination_by structural t => t
def evCs (Γ : Gam) : List C → Env → M Out
  | [], ρ => ret (.nx ρ)
  | c :: cs, ρ => bnd (evC Γ c ρ) fun o => match o with
    | .nx ρ' => evCs Γ cs ρ'
    | o => ret o
termination_by structural t => t
end

/-! ### defs -/
inductive Fn where
  | code (ar n : Nat) (body : List C)
  | lam (ar n : Nat) (ce : T)
  | prim (f : List D → M D)
def initE (n : Nat) (ds : List D) : Env := ds.map (fun d => some (d, false)) ++ List.replicate (n - ds.length) none
def outD : Out → M D
  | .rt d => ret d
  | .nx _ => ret .non
  | _ => no
def callF (tab : Str → Option Fn) : Nat → Gam
  | 0, _, _ => no
  | n + 1, x, ds => match tab x with
    | none => no
    | some (.prim f) => f ds
    | some (.lam ar m ce) => if ds.length = ar then nox (ev (callF tab n) (initE m ds) ce) else no
    | some (.code ar m body) => if ds.length = ar then bnd (evCs (callF tab n) body (initE m ds)) outD else no
end Mp
end
section
/-! Mp: data in the abstract heap; situations; what is asked behind an evaluation. -/
namespace Mp
open PySem PySem.Spec
                                                                                                    PyProof.Rows L2

/-- the addresses of the draws' state -/
structure Zp where
  aS : Addr
  aC : Addr
  aL : Addr
  ne : aC ≠ aL
/-- what is the same throughout: the module's names, the tables of code objects -/
structure LamD where
  qual : Str
  params : Arguments
  body : Expr
  scope : Scope
  cn : List Str
structure Wp where
  mg : Str → Option Value
  tabs : List Addr
  lam : Str → Option LamD
  ltabs : List (Addr × Str)
/-- an object that is known -/
def KnO (o : Obj) : HO := .frz o (.ext fun _ => True)

def hid (B : List Addr) (H : Hp) : Hp := fun a => if a ∈ B then none else H a
theorem hid_some {B : List Addr} {H : Hp} {a : Addr} {o : HO} (h : hid B H a = some o) : a ∉ B ∧ H a = some o := by
  unfold hid at h
  split at h
  · cases h
  · exact ⟨by assumption, h⟩
theorem hid_of {B : List Addr} {H : Hp} {a : Addr} {o : HO} (h1 : a ∉ B) (h2 : H a = some o) : hid B H a = some o := by
  unfold hid
  rw [if_neg h1]
  exact h2

/-- the lambda L at f, its cells cl with the values vs, its code object at c' -/
structure LamAt (F : Hp) (L : LamD) (f : Addr) (cl : List (Str × Addr)) (c' : Addr) (vs : List V) : Prop where
  fn : ∃ pm ctv, F f = some (KnO (PySem.W.kla_obj "<lambda>" L.qual L.params L.body L.scope cl pm c' ctv))
  co : F c' = some (LamX.CodeO c' L.qual)
  len : cl.length = vs.length
  nm : cl.map (·.1) = L.cn
  inj : ∀ (x y : Str) (c : Addr), (x, c) ∈ cl → (y, c) ∈ cl → x = y
  ce : ∀ (i : Nat) (n : Str) (c : Addr) (v : V), cl[i]? = some (n, c) → vs[i]? = some v → ∃ o u, F c = some (KnO o) ∧ o.data = .cell (some u) ∧ RelV v u
mutual
def Rep (W : Wp) (Z : Zp) (F : Hp) : D → V → Prop
  | .non, v => v = .non
  | .bl b, v => v = .bl b
  | .int i, v => v = .int i
  | .str s, v => v = .str s
  | .tup xs, v => ∃ a vs, v = .ref a ∧ F a = some (.tup vs) ∧ Reps W Z F xs vs
  | .lst xs, v => ∃ a vs, v = .ref a ∧ F a = some (.lst vs) ∧ Reps W Z F xs vs
  | .st, v => v = .ref Z.aS
  | .gl x, v => ∃ f, W.mg x = some (.ref f) ∧ v = .ref f
  | .dic ks xs, v => ∃ a vs, v = .ref a ∧ F a = some (.dK (ks.zip vs)) ∧ ks.length = vs.length ∧ Reps W Z F xs vs
  | .clo x xs, v => ∃ L f cl c' vs, W.lam x = some L ∧ v = .ref f ∧ LamAt F L f cl c' vs ∧ Reps W Z F xs vs
def Reps (W : Wp) (Z : Zp) (F : Hp) : List D → List V → Prop
  | [], vs => vs = []
  | d :: ds, vs => ∃ v r, vs = v :: r ∧ Rep W Z F d v ∧ Reps W Z F ds r
end
/-- sequences stay -/
def Le (F F' : Hp) : Prop := ∀ a o, F a = some o → (∀ ps, o ≠ .tbl ps) → F' a = some o
theorem Le.refl (F : Hp) : Le F F := fun _ _ h _ => h
theorem Le.trans {F F1 F2 : Hp} (a : Le F F1) (b : Le F1 F2) : Le F F2 := fun x o h n => b x o (a x o h n) n
theorem LamAt.mono {F F' : Hp} {L : LamD} {f c' : Addr} {cl : List (Str × Addr)} {vs : List V} (l : Le F F') (h : LamAt F L f cl c' vs) : LamAt F' L f cl c' vs := by
  obtain ⟨pm, ctv, h1⟩ := h.fn
  refine ⟨⟨pm, ctv, l _ _ h1 (fun ps e => by cases e)⟩, l _ _ h.co (fun ps e => LamX.codeO_ne ps e), h.len, h.nm, h.inj, fun i n c v e1 e2 => ?_⟩
  obtain ⟨o, u, g1, g2, g3⟩ := h.ce i n c v e1 e2
  exact ⟨o, u, l _ _ g1 (fun ps e => by cases e), g2, g3⟩
section
variable {W : Wp} {Z : Zp} {F F' : Hp}
mutual
theorem Rep.mono (l : Le F F') : ∀ (d : D) (v : V), Rep W Z F d v → Rep W Z F' d v
  | .non, _, h => h
  | .bl _, _, h => h
  | .int _, _, h => h
  | .str _, _, h => h
  | .tup xs, v, h => by
    obtain ⟨a, vs, e, h1, h2⟩ := h
    exact ⟨a, vs, e, l a _ h1 (fun ps z => by cases z), Reps.mono l xs vs h2⟩
  | .lst xs, v, h => by
    obtain ⟨a, vs, e, h1, h2⟩ := h
    exact ⟨a, vs, e, l a _ h1 (fun ps z => by cases z), Reps.mono l xs vs h2⟩
  | .st, _, h => h
  | .gl _, _, h => h
  | .dic ks xs, v, h => by
    obtain ⟨a, vs, e, h1, h2, h3⟩ := h
    exact ⟨a, vs, e, l a _ h1 (fun ps z => by cases z), h2, Reps.mono l xs vs h3⟩
  | .clo x xs, v, h => by
    obtain ⟨L, f, cl, c', vs, e1, e2, h1, h2⟩ := h
    exact ⟨L, f, cl, c', vs, e1, e2, h1.mono l, Reps.mono l xs vs h2⟩
theorem Reps.mono (l : Le F F') : ∀ (ds : List D) (vs : List V), Reps W Z F ds vs → Reps W Z F' ds vs
  | [], _, h => h
  | d :: ds, vs, h => by
    obtain ⟨v, r, e, h1, h2⟩ := h
    exact ⟨v, r, e, Rep.mono l d v h1, Reps.mono l ds r h2⟩
end
theorem Reps.cons {d : D} {ds : List D} {v : V} {vs : List V} (h1 : Rep W Z F d v) (h2 : Reps W Z F ds vs) : Reps W Z F (d :: ds) (v :: vs) := ⟨v, vs, rfl, h1, h2⟩
theorem Reps.len : ∀ {ds : List D} {vs : List V}, Reps W Z F ds vs → ds.length = vs.length
  | [], _, h => by
    have e : _ = [] := h
    rw [e]
    rfl
  | d :: ds, vs, h => by
    obtain ⟨v, r, e, _, h2⟩ := h
    rw [e, List.length_cons, List.length_cons, Reps.len h2]
theorem Reps.get : ∀ {ds : List D} {vs : List V} {i : Nat} {d : D}, Reps W Z F ds vs → ds[i]? = some d → ∃ v, vs[i]? = some v ∧ Rep W Z F d v
  | [], _, _, _, _, h =>
                                                                                                    by simp at h
  | d :: ds, vs, 0, e, h, g => by
    obtain ⟨v, r, ev, h1, _⟩ := h
    have eg : d = e := by simpa using g
    rw [ev]
    exact ⟨v, rfl, eg ▸ h1⟩
  | d :: ds, vs, i + 1, e, h, g => by
    obtain ⟨v, r, ev, _, h2⟩ := h
    obtain ⟨u, g1, g2⟩ := Reps.get (i := i) h2 (by simpa using g)
    rw [ev]
    exact ⟨u, by simpa using g1, g2⟩
theorem Reps.app : ∀ {ds es : List D} {vs us : List V}, Reps W Z F ds vs → Reps W Z F es us → Reps W Z F (ds ++ es) (vs ++ us)
  | [], _, _, _, h, g => by
    have e : _ = [] := h
    rw [e]
    exact g
  | d :: ds, es, vs, us, h, g => by
    obtain ⟨v, r, ev, h1, h2⟩ := h
    rw [ev]
    exact ⟨v, r ++ us, rfl, h1, Reps.app h2 g⟩
theorem Reps.take : ∀ (n : Nat) {ds : List D} {vs : List V}, Reps W Z F ds vs → Reps W Z F (ds.take n) (vs.take n)
  | 0, _, _, _ => rfl
  | n + 1, [], vs, h => by
    have e : vs = [] := h
    rw [e]
    rfl
  | n + 1, d :: ds, vs, h => by
    obtain ⟨v, r, ev, h1, h2⟩ := h
    rw [ev]
    exact ⟨v, r.take n, rfl, h1, Reps.take n h2⟩
theorem Reps.drop : ∀ (n : Nat) {ds : List D} {vs : List V}, Reps W Z F ds vs → Reps W Z F (ds.drop n) (vs.drop n)
  | 0, _, _, h => h
  | n + 1, [], vs, h => by
    have e : vs = [] := h
    rw [e]
    rfl
  | n + 1, d :: ds, vs, h => by
    obtain ⟨v, r, ev, h1, h2⟩ := h
    rw [ev]
    exact Reps.drop n h2
mutual
/-- what holds no list stands in tuples alone -/
theorem Rep.imm (l : ∀ a o, F a = some o → (∀ ps, o ≠ .tbl ps) → (∀ ps, o ≠ .lst ps) → (∀ ps, o ≠ .dK ps) → F' a = some o) : ∀ (d : D) (v : V), mutD d = false → Rep W Z F d v → Rep W Z F' d v
  | .non, _, _, h => h
  | .bl _, _, _, h => h
  | .int _, _, _, h => h
  | .str _, _, _, h => h
  | .tup xs, v, m, h => by
    obtain ⟨a, vs, e, h1, h2⟩ := h
    exact ⟨a, vs, e, l a _ h1 (fun ps z => by cases z) (fun ps z => by cases z) (fun ps z => by cases z), Reps.imm l xs vs (by simpa [mutD] using m) h2⟩
  | .lst xs, v, m, h => by simp [mutD] at m
  | .st, _, _, h => h
  | .gl _, _, _, h => h
  | .dic _ _, _, m, h => by simp [mutD] at m
  | .clo x xs, v, m, h => by
    obtain ⟨L, f, cl, c', vs, e1, e2, h1, h2⟩ := h
    refine ⟨L, f, cl, c', vs, e1, e2, ?_, Reps.imm l xs vs (by simpa [mutD] using m) h2⟩
    obtain ⟨pm, ctv, g1⟩ := h1.fn
    refine ⟨⟨pm, ctv, l _ _ g1 (fun ps z => by cases z) (fun ps z => by cases z) (fun ps z => by cases z)⟩, l _ _ h1.co (fun ps e => LamX.codeO_ne ps e) (fun ps e => by unfold LamX.CodeO at e; cases e) (fun ps e => by unfold LamX.CodeO at e; cases e), h1.len, h1.nm, h1.inj, fun i n c v k1 k2 => ?_⟩
    obtain ⟨o, u, k3, k4, k5⟩ := h1.ce i n c v k1 k2
    exact ⟨o, u, l _ _ k3 (fun ps z => by cases z) (fun ps z => by cases z) (fun ps z => by cases z), k4, k5⟩
theorem Reps.imm (l : ∀ a o, F a = some o → (∀ ps, o ≠ .tbl ps) → (∀ ps, o ≠ .lst ps) → (∀ ps, o ≠ .dK ps) → F' a = some o) : ∀ (ds : List D) (vs : List V), mutDs ds = false → Reps W Z F ds vs → Reps W Z F' ds vs
  | [], _, _, h => h
  | d :: ds, vs, m, h => by
    obtain ⟨v, r, e, h1, h2⟩ := h
    have m' : mutD d = false ∧ mutDs ds = false := by simpa [mutDs] using m
    exact ⟨v, r, e, Rep.imm l d v m'.1 h1, Reps.imm l ds r m'.2 h2⟩
end
end

/-! ### the heap grows -/
structure Grow (Z : Zp) (H H' : Hp) : Prop where
  keep : ∀ a o, H a = some o → a ≠ Z.aS → a ≠ Z.aL → (∀ ps, o ≠ .tbl ps) → H' a = some o
  there : ∀ a, H a ≠ none → H' a ≠ none
theorem Grow.refl (Z : Zp) (H : Hp) : Grow Z H H := ⟨fun _ _ h _ _ _ => h, fun _ h => h⟩
theorem Grow.trans {Z : Zp} {H H1 H2 : Hp} (a : Grow Z H H1) (b : Grow Z H1 H2) : Grow Z H H2 :=
  ⟨fun x o h h1 h2 h3 => b.keep x o (a.keep x o h h1 h2 h3) h1 h2 h3, fun x h => b.there x (a.there x h)⟩
theorem Grow.new {Z : Zp} {H : Hp} {p : Addr} {o : HO} (h : H p = none) : Grow Z H (upd H p o) :=
  ⟨fun a u e _ _ _ => by rw [upd_ne (ne_of_none e h)]; exact e, fun a e z => by
    by_cases q : a = p
    · rw [q, upd_same] at z
      cases z
    · rw [upd_ne q] at z
      exact e z⟩
theorem Grow.none {Z : Zp} {H H' : Hp} (g : Grow Z H H') {p : Addr} (h : H' p = none) : H p = none := by
  cases e : H p with
  | none => rfl
  | some o => exact absurd h (g.there p (by rw [e]; simp))
theorem Grow.le {Z : Zp} {H H' : Hp} {B : List Addr} (g : Grow Z H H') (h1 : Z.aS ∈ B) (h2 : Z.aL ∈ B) : Le (hid B H) (hid B H') := fun a o h nt => by
  obtain ⟨n, e⟩ := hid_some h
  exact hid_of n (g.keep a _ e (fun z => n (z ▸ h1)) (fun z => n (z ▸ h2)) nt)

/-- the tables of code objects -/
def TabOk (H : Hp) (P : Addr) : Prop := ∃ ps : Array Value, H P = some (.tbl ps) ∧ TriplesOk ps.toList
abbrev kS (x : Str) : Key := Sum.inr x
/-- the state of the draws, the tables -/
structure Wld (W : Wp) (Z : Zp) (st : S) (H : Hp) : Prop where
  s : H Z.aS = some (.dK [(kS "cells", .ref Z.aC), (kS "lefts", .ref Z.aL), (kS "at", .int st.at_)])
  c : H Z.aC = some (.lst (st.cells.map V.int))
  l : H Z.aL = some (.lst (st.lefts.map V.int))
  len : st.lefts.length = st.cells.length
  pos : 0 < st.cells.length
  few : st.cells.length ≤ 100
  at0 : 0 ≤ st.at_
  t : ∀ P ∈ W.tabs, TabOk H P
  lt : LamX.Tabs W.ltabs H
theorem Wld.new {W : Wp} {Z : Zp} {st : S} {H : Hp} {p : Addr} {o : HO} (w : Wld W Z st H) (h : H p = none) : Wld W Z st (upd H p o) := by
  have k : ∀ a u, H a = some u → upd H p o a = some u := fun a u e => by rw [upd_ne (ne_of_none e h)]; exact e
  exact ⟨k _ _ w.s, k _ _ w.c, k _ _ w.l, w.len, w.pos, w.few, w.at0, fun P hP => by
    obtain ⟨ps, e1, e2⟩ := w.t P hP
    exact ⟨ps, k _ _ e1, e2⟩, w.lt.ext k⟩

/-- a situation: the state's addresses, what is hidden, the slots' data -/
structure Sit where
  Z : Zp
  B : List Addr
  ρ : Env
/-- what an expression that reads vs finds -/
structure At (W : Wp) (q : Sit) (st : S) (vs : List Nat) (σ : L2.St) (H : Hp) : Prop where
  sS : q.Z.aS ∈ q.B
  sL : q.Z.aL ∈ q.B
  w : Wld W q.Z st H
  hB : ∀ a ∈ q.B, (∃ xs, H a = some (.lst xs)) ∨ ∃ kvs, H a = some (.dK kvs)
  len : q.ρ.length = σ.length
  see : ∀ i ∈ vs, ∀ d, getE q.ρ i = some d → ∃ v, σ[i]? = some (some v) ∧ Rep W q.Z (hid q.B H) d v
theorem mu_grow {W : Wp} {Z : Zp} {st' : S} {H H' : Hp} {b : Addr} (h : (∃ xs, H b = some (.lst xs)) ∨ ∃ kvs, H b = some (.dK kvs)) (g : Grow Z H H') (w : Wld W Z st' H') : (∃ xs, H' b = some (.lst xs)) ∨ ∃ kvs, H' b = some (.dK kvs) := by
  by_cases e1 : b = Z.aS
  · exact .inr ⟨_, e1 ▸ w.s⟩
  · by_cases e2 : b = Z.aL
    · exact .inl ⟨_, e2 ▸ w.l⟩
    · rcases h with ⟨xs, e⟩ | ⟨kvs, e⟩
      · exact .inl ⟨xs, g.keep b _ e e1 e2 fun ps z => by cases z⟩
      · exact .inr ⟨kvs, g.keep b _ e e1 e2 fun ps z => by cases z⟩
theorem At.sub {W : Wp} {q : Sit} {st : S} {vs us : List Nat} {σ : L2.St} {H : Hp} (a : At W q st vs σ H) (h : ∀ i ∈ us, i ∈ vs) : At W q st us σ H :=
  ⟨a.sS, a.sL, a.w, a.hB, a.len, fun i hi => a.see i (h i hi)⟩
theorem At.grow {W : Wp} {q : Sit} {st st' : S} {vs : List Nat} {σ : L2.St} {H H' : Hp} (a : At W q st vs σ H) (g : Grow q.Z H H') (w : Wld W q.Z st' H') : At W q st' vs σ H' := by
  refine ⟨a.sS, a.sL, w, fun b hb => mu_grow (a.hB b hb) g w, a.len, fun i hi d e => ?_⟩
  obtain ⟨v, h1, h2⟩ := a.see i hi d e
  exact ⟨v, h1, Rep.mono (g.le a.sS a.sL) d v h2⟩

/-! ### what is asked behind -/
/-- how an exception lies -/
def ExRep (W : Wp) (x : Ex) (cls : Value) (dx : Option Addr) (H : Hp) : Prop := ∃ C, W.mg x.cls = some (.ref C) ∧ cls = .ref C
/-- behind an evaluation that ends in r, the heap having grown from H -/
def Fin {β : Type} (W : Wp) (q : Sit) (E : XK) (P : β → Hp → Prop) (r : R β) (H : Hp) : Prop := match r with
  | .ok b st' => ∀ H', Grow q.Z H H' → Wld W q.Z st' H' → P b H'
  | .exc x st' => ∀ cls dx H', Grow q.Z H H' → Wld W q.Z st' H' → ExRep W x cls dx H' → E cls dx H'
  | .no => False
section
variable {α β : Type} {W : Wp} {q : Sit} {E : XK} {P : β → Hp → Prop} {H H1 : Hp} {st : S}
theorem Fin.grow {r : R β} (h : Fin W q E P r H) (g : Grow q.Z H H1) : Fin W q E P r H1 := by
  cases r with
  | ok b s => exact fun H' g' w => h H' (g.trans g') w
  | exc x s => exact fun c d H' g' w e => h c d H' (g.trans g') w e
  | no => exact h
theorem Fin.split {m : M α} {f : α → M β} {P' : α → Hp → Prop} (h : Fin W q E P (bnd m f st) H) (k : ∀ a st1, Fin W q E P (f a st1) H → ∀ H1, Grow q.Z H H1 → Wld W q.Z st1 H1 → Fin W q E P (f a st1) H1 → P' a H1) : Fin W q E P' (m st) H := by
  unfold bnd at h
  cases e : m st with
  | ok a s1 =>
    rw [e] at h
    exact fun H' g w => k a s1 h H' g w (h.grow g)
  | exc x s1 =>
    rw [e] at h
    exact h
  | no =>
    rw [e] at h
    exact h
theorem Fin.ofO {o : Option α} {f : α → M β} (h : Fin W q E P (bnd (ofO o) f st) H) : ∃ a, o = some a ∧ Fin W q E P (f a st) H := by
  cases o with
  | none => exact h.elim
  | some a => exact ⟨a, rfl, h⟩
theorem Fin.ofO1 {o : Option β} (h : Fin W q E P (Mp.ofO o st) H) : ∃ a, o = some a ∧ Fin W q E P (Mp.ret a st) H := by
  cases o with
  | none => exact h.elim
  | some a => exact ⟨a, rfl, h⟩
theorem Fin.ret {b : β} (h : Fin W q E P (Mp.ret b st) H) (g : Grow q.Z H H1) (w : Wld W q.Z st H1) : P b H1 := h H1 g w
theorem Fin.if_ {c : Prop} [Decidable c] {m : M β} (h : Fin W q E P ((if c then m else Mp.no) st) H) : c ∧ Fin W q E P (m st) H := by
  by_cases e : c
  · rw [if_pos e] at h
    exact ⟨e, h⟩
  · rw [if_neg e] at h
    exact h.elim
end
/-- the value v stands for d; fr: it is a new list -/
structure Res (W : Wp) (q : Sit) (H H' : Hp) (fr : Bool) (d : D) (v : V) : Prop where
  rep : Rep W q.Z (hid q.B H') d v
  new : fr = true → ∀ ds, d = .lst ds → ∃ p vs, v = .ref p ∧ H p = none ∧ H' p = some (.lst vs) ∧ Reps W q.Z (hid (p :: q.B) H') ds vs
/-- what an expression's evaluation asks -/
abbrev PD (W : Wp) (q : Sit) (H : Hp) (fr : Bool) (Q : VK) : D → Hp → Prop := fun d H' => ∀ v, Res W q H H' fr d v → Q v H'
abbrev PL (W : Wp) (q : Sit) (Q : List V → Hp → Prop) : List D → Hp → Prop := fun ds H' => ∀ vs, Reps W q.Z (hid q.B H') ds vs → Q vs H'
def tE (W : Wp) (Γ : Gam) (t : T) (E : XK) : TE := fun σ H Q => ∃ q st, At W q st (vars t) σ H ∧ Fin W q E (PD W q H (fresh t) Q) (ev Γ q.ρ t st) H
def tT (W : Wp) (Γ : Gam) (t : T) (E : XK) : TT := fun σ H Q => ∃ q st, At W q st (vars t) σ H ∧ Fin W q E Q (tst Γ q.ρ t st) H
def tA (W : Wp) (Γ : Gam) (ts : List T) (E : XK) : TA := fun σ H Q => ∃ q st, At W q st (varss ts) σ H ∧ Fin W q E (PL W q Q) (evs Γ q.ρ ts st) H
end Mp
end
section
/-! Mp: the order of data, as the model finds it. -/
namespace Mp
open PySem PySem.Spec
                                                                                                    PyProof.Rows L2

theorem lst_asym : ∀ {a b : List Nat}, a < b → ¬ b < a := fun h h2 => absurd (List.lt_trans h h2) (List.lt_irrefl _)
theorem cmI_swap (a b : Int) : cmI b a = (cmI a b).swap := by
  unfold cmI
  by_cases h1 : a < b
  · rw [if_pos h1, if_neg (by omega), if_pos h1] <;> rfl
  · by_cases h2 : b < a
    · rw [if_pos h2, if_neg h1, if_pos h2] <;> rfl
    · rw [if_neg h2, if_neg h1, if_neg h1, if_neg h2] <;> rfl
theorem cmN_swap (a b : Nat) : cmN b a = (cmN a b).swap := by
  unfold cmN
  by_cases h1 : a < b
  · rw [if_pos h1, if_neg (by omega), if_pos h1] <;> rfl
  · by_cases h2 : b < a
    · rw [if_pos h2, if_neg h1, if_pos h2] <;> rfl
    · rw [if_neg h2, if_neg h1, if_neg h1, if_neg h2] <;> rfl
theorem cmS_swap (a b : List Nat) : cmS b a = (cmS a b).swap := by
  unfold cmS
  by_cases h1 : a < b
  · rw [if_pos h1, if_neg (lst_asym h1), if_pos h1] <;> rfl
  · by_cases h2 : b < a
    · rw [if_pos h2, if_neg h1, if_pos h2] <;> rfl
    · rw [if_neg h2, if_neg h1, if_neg h1, if_neg h2] <;> rfl
theorem then_swap (a b : Ordering) : (a.then b).swap = a.swap.then b.swap := by cases a <;> rfl
mutual
theorem cmD_swap : ∀ d e : D, cmD e d = (cmD d e).swap
  | .int a, e => by cases e <;> first | exact cmI_swap _ _ | (simp only [cmD]; exact cmN_swap _ _)
  | .str a, e => by cases e <;> first | exact cmS_swap _ _ | (simp only [cmD]; exact cmN_swap _ _)
  | .tup xs, e => by
    cases e with
    | tup ys => simp only [cmD]; exact cmDs_swap xs ys
    | _ => simp only [cmD]; exact cmN_swap _ _
  | .non, e => by cases e <;> (simp only [cmD]; exact cmN_swap _ _)
  | .bl _, e => by cases e <;> (simp only [cmD]; exact cmN_swap _ _)
  | .lst _, e => by cases e <;> (simp only [cmD]; exact cmN_swap _ _)
  | .st, e => by cases e <;> (simp only [cmD]; exact cmN_swap _ _)
  | .gl _, e => by cases e <;> (simp only [cmD]; exact cmN_swap _ _)
  | .dic _ _, e => by cases e <;> (simp only [cmD]; exact cmN_swap _ _)
  | .clo _ _, e => by cases e <;> (simp only [cmD]; exact cmN_swap _ _)
theorem cmDs_swap : ∀ xs ys : List D, cmDs ys xs = (cmDs xs ys).swap
  | [], ys => by cases ys <;> rfl
  | x :: xs, [] => rfl
  | x :: xs, y :: ys => by
    simp only [cmDs]
    rw [cmD_swap x y, cmDs_swap xs ys, then_swap]
end
/-- a three-way comparison is transitive -/
def Tr {α : Type} (c : α → α → Ordering) (x y z : α) : Prop := (c x y = .lt → c y z ≠ .gt → c x z = .lt) ∧ (c x y = .eq → c x z = c y z) ∧ (c x y ≠ .gt → c y z = .lt → c x z = .lt)
theorem tr_I (x y z : Int) : Tr cmI x y z := by
  unfold Tr cmI
  refine ⟨fun h1 h2 => ?_, fun h => ?_, fun h1 h2 => ?_⟩ <;> (repeat' split at *) <;> first | rfl | omega | simp_all | (exfalso; omega)
theorem tr_N (x y z : Nat) : Tr cmN x y z := by
  unfold Tr cmN
  refine ⟨fun h1 h2 => ?_, fun h => ?_, fun h1 h2 => ?_⟩ <;> (repeat' split at *) <;> first | rfl | omega | simp_all | (exfalso; omega)
theorem lst_tri (a b : List Nat) (h1 : ¬ a < b) (h2 : ¬ b < a) : a = b := List.le_antisymm (List.not_lt.mp h2) (List.not_lt.mp h1)
theorem cmS_eq {a b : List Nat} (h : cmS a b = .eq) : a = b := by
  unfold cmS at h
  by_cases h1 : a < b
  · rw [if_pos h1] at h; cases h
  · by_cases h2 : b < a
    · rw [if_neg h1, if_pos h2] at h; cases h
    · exact lst_tri a b h1 h2
theorem cmS_lt {a b : List Nat} : cmS a b = .lt ↔ a < b := by
  unfold cmS
  by_cases h1 : a < b
  · rw [if_pos h1]; exact ⟨fun _ => h1, fun _ => rfl⟩
  · rw [if_neg h1]
    refine ⟨fun h => ?_, fun h => absurd h h1⟩
    by_cases h2 : b < a
    · rw [if_pos h2] at h; cases h
    · rw [if_neg h2] at h; cases h
theorem cmS_refl (a : List Nat) : cmS a a = .eq := by
  unfold cmS
  rw [if_neg (List.lt_irrefl _), if_neg (List.lt_irrefl _)]
theorem cmS_ngt {a b : List Nat} (h : cmS a b ≠ .gt) : a < b ∨ a = b := by
  cases e : cmS a b with
  | lt => exact .inl (cmS_lt.mp e)
  | eq => exact .inr (cmS_eq e)
  | gt => exact absurd e h
theorem tr_S (x y z : List Nat) : Tr cmS x y z := by
  refine ⟨fun h1 h2 => ?_, fun h => ?_, fun h1 h2 => ?_⟩
  · rcases cmS_ngt h2 with e | e
    · exact cmS_lt.mpr (List.lt_trans (cmS_lt.mp h1) e)
    · rw [← e]; exact h1
  · rw [cmS_eq h]
  · rcases cmS_ngt h1 with e | e
    · exact cmS_lt.mpr (List.lt_trans e (cmS_lt.mp h2))
    · rw [e]; exact h2
theorem tr_then {c1 c2 c3 d1 d2 d3 : Ordering} (t1 : c1 = .lt → c2 ≠ .gt → c3 = .lt) (t2 : c1 = .eq → c3 = c2) (t3 : c1 ≠ .gt → c2 = .lt → c3 = .lt)
    (u1 : d1 = .lt → d2 ≠ .gt → d3 = .lt) (u2 : d1 = .eq → d3 = d2) (u3 : d1 ≠ .gt → d2 = .lt → d3 = .lt) :
    (c1.then d1 = .lt → c2.then d2 ≠ .gt → c3.then d3 = .lt) ∧ (c1.then d1 = .eq → c3.then d3 = c2.then d2) ∧ (c1.then d1 ≠ .gt → c2.then d2 = .lt → c3.then d3 = .lt) := by
  cases c1 <;> cases c2 <;> simp_all [Ordering.then] <;> (try cases d1 <;> cases d2 <;> simp_all)
/-- by their kinds alone -/
theorem cm_rk {d e : D} (h : rk d = 3 ∨ rk e = 3 ∨ rk d ≠ rk e) : cmD d e = cmN (rk d) (rk e) := by
  cases d <;> first
    | (simp only [cmD]; done)
    | (cases e <;> first | (simp only [cmD]; done) | (simp [rk] at h; done))
theorem tr_rk {x y z : D} (h1 : cmD x y = cmN (rk x) (rk y)) (h2 : cmD y z = cmN (rk y) (rk z)) (h3 : cmD x z = cmN (rk x) (rk z)) : Tr cmD x y z := by
  have := tr_N (rk x) (rk y) (rk z)
  unfold Tr at this ⊢
  rw [h1, h2, h3]
  exact this
theorem rk_le (d : D) : rk d ≤ 3 := by cases d <;> simp [rk]
theorem rk3 {d : D} (h : rk d ≠ 0) (h1 : rk d ≠ 1) (h2 : rk d ≠ 2) : rk d = 3 := by have := rk_le d; omega
theorem cmN_lt {a b : Nat} : cmN a b = .lt ↔ a < b := by
  unfold cmN
  (repeat' split) <;> simp <;> omega
theorem cmN_gt {a b : Nat} : cmN a b = .gt ↔ b < a := by
  unfold cmN
  (repeat' split) <;> simp <;> omega
theorem cmN_eq {a b : Nat} : cmN a b = .eq ↔ a = b := by
  unfold cmN
  (repeat' split) <;> simp <;> omega
/-- unless all three are of one kind that is compared within -/
theorem tr_mix {x y z : D} (h : ¬ (rk x = rk y ∧ rk y = rk z ∧ rk x ≠ 3)) : Tr cmD x y z := by
  by_cases hxy : rk x = rk y
  · by_cases h3 : rk x = 3
    · exact tr_rk (cm_rk (.inl h3)) (cm_rk (.inl (hxy ▸ h3))) (cm_rk (.inl h3))
    · have hyz : rk y ≠ rk z := fun e => h ⟨hxy, e, h3⟩
      have e1 := cm_rk (d := y) (e := z) (.inr (.inr hyz))
      have e2 := cm_rk (d := x) (e := z) (.inr (.inr (hxy ▸ hyz)))
      unfold Tr
      rw [e1, e2, hxy]
      refine ⟨fun _ h2 => ?_, fun _ => rfl, fun _ h2 => h2⟩
      cases e : cmN (rk y) (rk z) with
      | lt => rfl
      | eq => exact absurd (cmN_eq.mp e) hyz
      | gt => exact absurd e h2
  · have e1 := cm_rk (d := x) (e := y) (.inr (.inr hxy))
    by_cases hyz : rk y = rk z
    · have e2 := cm_rk (d := x) (e := z) (.inr (.inr (hyz ▸ hxy)))
      unfold Tr
      rw [e1, e2, ← hyz]
      refine ⟨fun h1 _ => h1, fun h1 => absurd (cmN_eq.mp h1) hxy, fun h1 _ => ?_⟩
      cases e : cmN (rk x) (rk y) with
      | lt => rfl
      | eq => exact absurd (cmN_eq.mp e) hxy
      | gt => exact absurd e h1
    · have e2 := cm_rk (d := y) (e := z) (.inr (.inr hyz))
      by_cases hxz : rk x = rk z
      · unfold Tr
        rw [e1, e2, ← hxz]
        refine ⟨fun h1 h2 => ?_, fun h1 => absurd (cmN_eq.mp h1) hxy, fun h1 h2 => ?_⟩
        · exact absurd (cmN_gt.mpr (cmN_lt.mp h1)) h2
        · exact absurd (cmN_gt.mpr (cmN_lt.mp h2)) h1
      · exact tr_rk e1 e2 (cm_rk (.inr (.inr hxz)))
mutual
theorem tr_D : ∀ x y z : D, Tr cmD x y z
  | .int a, y, z => by
    by_cases h : (0 : Nat) = rk y ∧ rk y = rk z
    · cases y <;> simp [rk] at h
      cases z <;> simp [rk] at h
      exact tr_I _ _ _
    · exact tr_mix fun q => h ⟨q.1, q.2.1⟩
  | .str a, y, z => by
    by_cases h : (1 : Nat) = rk y ∧ rk y = rk z
    · cases y <;> simp [rk] at h
      cases z <;> simp [rk] at h
      exact tr_S _ _ _
    · exact tr_mix fun q => h ⟨q.1, q.2.1⟩
  | .tup xs, y, z => by
    by_cases h : (2 : Nat) = rk y ∧ rk y = rk z
    · cases y <;> simp [rk] at h
      cases z <;> simp [rk] at h
      rename_i ys zs
      have h := tr_Ds xs ys zs
      unfold Tr at h ⊢
      simp only [cmD]
      exact h
    · exact tr_mix fun q => h ⟨q.1, q.2.1⟩
  | .non, y, z => tr_mix fun q => q.2.2 rfl
  | .bl _, y, z => tr_mix fun q => q.2.2 rfl
  | .lst _, y, z => tr_mix fun q => q.2.2 rfl
  | .st, y, z => tr_mix fun q => q.2.2 rfl
  | .gl _, y, z => tr_mix fun q => q.2.2 rfl
  | .dic _ _, y, z => tr_mix fun q => q.2.2 rfl
  | .clo _ _, y, z => tr_mix fun q => q.2.2 rfl
theorem tr_Ds : ∀ xs ys zs : List D, Tr cmDs xs ys zs
  | [], ys, zs => by cases ys <;> cases zs <;> (unfold Tr; simp [cmDs])
  | x :: xs, [], zs => by cases zs <;> (unfold Tr; simp [cmDs])
  | x :: xs, y :: ys, [] => by unfold Tr; simp [cmDs]
  | x :: xs, y :: ys, z :: zs => by
    obtain ⟨t1, t2, t3⟩ := tr_D x y z
    obtain ⟨u1, u2, u3⟩ := tr_Ds xs ys zs
    unfold Tr
    simp only [cmDs]
    exact tr_then t1 t2 t3 u1 u2 u3
end
theorem ltD_iff {d e : D} : ltD d e = true ↔ cmD d e = .lt := by
  unfold ltD
  exact beq_iff_eq
theorem ltD_no {d e : D} : ltD d e = false ↔ cmD d e ≠ .lt := by
  unfold ltD
  rw [beq_eq_false_iff_ne]
theorem swap_ngt {o : Ordering} : o.swap ≠ .lt ↔ o ≠ .gt := by cases o <;> decide
theorem swo_D : SrtO.Swo ltD := by
  refine ⟨fun x y h => ?_,
                                                                                                    fun x y z h1 h2 => ?_⟩
  · rw [ltD_no, cmD_swap x y, ltD_iff.mp h]
    decide
  · -- y is not below x, z not below y: z is not below x
    rw [ltD_no, cmD_swap x y, swap_ngt] at h1
    rw [ltD_no, cmD_swap y z, swap_ngt] at h2
    rw [ltD_no, cmD_swap x z, swap_ngt]
    obtain ⟨t1, t2, t3⟩ := tr_D x y z
    cases e : cmD x y with
    | lt => rw [t1 e h2]; decide
    | eq => rw [t2 e]; exact h2
    | gt => exact absurd e h1
mutual
theorem eqv_cm : ∀ d e : D, okO d e = true → eqv d e = (cmD d e == .eq)
  | .int a, .int b, _ => by
    show (a == b) = (cmI a b == .eq)
    unfold cmI
    by_cases h1 : a < b
    · rw [if_pos h1]
      show (a == b) = false
      exact beq_eq_false_iff_ne.mpr
                                                                                                    (by omega)
    · by_cases h2 : b < a
      · rw [if_neg h1, if_pos h2]
        show (a == b) = false
        exact beq_eq_false_iff_ne.mpr
                                                                                                    (by omega)
      · rw [if_neg h1, if_neg h2]
        show (a == b) = true
        exact beq_iff_eq.mpr (by omega)
  | .str a, .str b, _ => by
    show (a == b) = (cmS a.cps.toList b.cps.toList == .eq)
    by_cases h : a = b
    · rw [h, cmS_refl]
      exact beq_iff_eq.mpr rfl
    · have n : cmS a.cps.toList b.cps.toList ≠ .eq := fun z => h (by
        have := cmS_eq z
        obtain ⟨⟨x⟩⟩ := a
        obtain ⟨⟨y⟩⟩ := b
        have e : x = y := this
        rw [e])
      rw [beq_eq_false_iff_ne.mpr h, beq_eq_false_iff_ne.mpr n]
  | .tup xs, .tup ys, h => by
    simp only [eqv, py, PyData.eqv, cmD]
    exact eqvs_cm xs ys (by simpa only [okO] using h)
  | .int _, .non, h | .int _, .bl _, h | .int _, .str _, h | .int _, .tup _, h | .int _, .lst _, h | .int _, .st, h | .int _, .gl _, h | .int _, .dic _ _, h | .int _, .clo _ _, h => by simp [okO] at h
  | .str _, .non, h | .str _, .bl _, h | .str _, .int _, h | .str _, .tup _, h | .str _, .lst _, h | .str _, .st, h | .str _, .gl _, h | .str _, .dic _ _, h | .str _, .clo _ _, h => by simp [okO] at h
  | .tup _, .non, h | .tup _, .bl _, h | .tup _, .int _, h | .tup _, .str _, h | .tup _, .lst _, h | .tup _, .st, h | .tup _, .gl _, h | .tup _, .dic _ _, h | .tup _, .clo _ _, h => by simp [okO] at h
  | .non, e, h => by cases e <;> simp [okO] at h
  | .bl _, e, h => by cases e <;> simp [okO] at h
  | .lst _, e, h => by cases e <;> simp [okO] at h
  | .st, e, h => by cases e <;> simp [okO] at h
  | .gl _, e, h => by cases e <;> simp [okO] at h
  | .dic _ _, e, h => by cases e <;> simp [okO] at h
  | .clo _ _, e, h => by cases e <;> simp [okO] at h
theorem eqvs_cm : ∀ xs ys : List D, okOs xs ys = true → PyData.eqvAll (pys xs) (pys ys) = (cmDs xs ys == .eq)
  | [], [], _ => rfl
  | [], _ :: _, _ => rfl
  | _ :: _, [], _ => rfl
  | x :: xs, y :: ys, h => by
    have h' : okO x y = true ∧ okOs xs ys = true := by simpa only [okOs, Bool.and_eq_true] using h
    have e1 := eqv_cm x y h'.1
    have e2 := eqvs_cm xs ys h'.2
    simp only [pys, PyData.eqvAll, cmDs]
    rw [e2, show PyData.eqv (py x) (py y) = (cmD x y == .eq) from e1]
    cases cmD x y <;> cases cmDs xs ys <;> rfl
end
end Mp
end
section
namespace Mp
open PySem PySem.Spec
                                                                                                    PyProof.Rows L2

/-! ### comparing in the model -/
theorem okOs_get : ∀ {xs ys : List D} {j : Nat} {x y : D}, okOs xs ys = true → xs[j]? = some x → ys[j]? = some y → okO x y = true
  | [], _, _, _, _, _, h, _ =>
                                                                                                    by simp at h
  | _ :: _, [], _, _, _, _, _, h =>
                                                                                                    by simp at h
  | x :: xs, y :: ys, 0, x', y', h, h1, h2 => by
    have e1 : x = x' := by simpa using h1
    have e2 : y = y' := by simpa using h2
    rw [← e1, ← e2]
    have h' : okO x y = true ∧ okOs xs ys = true := by simpa only [okOs, Bool.and_eq_true] using h
    exact h'.1
  | x :: xs, y :: ys, j + 1, _, _, h, h1, h2 => by
    have h' : okO x y = true ∧ okOs xs ys = true := by simpa only [okOs, Bool.and_eq_true] using h
    exact okOs_get (j := j) h'.2 (by simpa using h1) (by simpa using h2)
/-- the lexicographic order from place i on -/
theorem lexAt_eq (e r : Nat → Bool) (f : Ordering → Bool) (hf : ∀ o : Ordering, o ≠ .eq → True) : ∀ (xs ys : List D) (i : Nat), (∀ j x y, xs[j]? = some x → ys[j]? = some y → e (i + j) = (cmD x y == .eq) ∧ (cmD x y ≠ .eq → r (i + j) = f (cmD x y))) →
    Ob.lexAt e r (f (cmN xs.length ys.length)) i (min xs.length ys.length) = f (cmDs xs ys)
  | [], [], i, _ => by simp [Ob.lexAt, cmDs, cmN]
  | [], y :: ys, i, _ => by simp [Ob.lexAt, cmDs, cmN]
  | x :: xs, [], i, _ => by simp [Ob.lexAt, cmDs, cmN]
  | x :: xs, y :: ys, i, h => by
    obtain ⟨h1, h2⟩ := h 0 x y rfl rfl
    have ih := lexAt_eq e r f hf xs ys (i + 1) fun j a b ha hb => by
      have q := h (j + 1) a b (by simpa using ha) (by simpa using hb)
      rw [show i + (j + 1) = i + 1 + j by omega] at q
      exact q
    have em : min
                                                                                                    (x :: xs).length (y :: ys).length = min xs.length ys.length + 1 := by
      simp only [List.length_cons]
      omega
    have en : cmN (x :: xs).length (y :: ys).length = cmN xs.length ys.length := by
      unfold cmN
      simp only [List.length_cons,
                                                                                                    Nat.add_lt_add_iff_right]
    rw [em, en, Ob.lexAt_succ]
    simp only [Nat.add_zero] at h1 h2
    rw [h1]
    simp only [cmDs]
    cases c : cmD x y with
    | eq =>
      simp only
                                                                                                    [beq_self_eq_true, if_true]
      exact ih
    | lt =>
      rw [if_neg (by decide), h2 (by rw [c]; decide), c]
      rfl
    | gt =>
      rw [if_neg (by decide), h2 (by rw [c]; decide), c]
      rfl
theorem readsAll_at : ∀ {xs : List D} {h : Heap} {vs : List Value} {as : List Addr} {j : Nat} {v : Value}, ReadsAll h vs (pys xs) as → vs[j]? = some v → ∃ x bs, xs[j]? = some x ∧ Reads h v (py x) bs
  | [], _, vs, _, j, v, h, g => by
    cases h
    simp at g
  | x :: xs, hp, vs, as, j, v, h, g => by
    have h2 : ReadsAll hp vs (py x :: pys xs) as := h
    cases h2 with
    | cons r1 r2 =>
      cases j with
      | zero =>
        have e := Option.some.inj g
        exact ⟨x, _, rfl, e ▸ r1⟩
      | succ j =>
        obtain ⟨y, bs, g1, g2⟩ := readsAll_at (j := j) r2 (by simpa using g)
        exact ⟨y, bs, by simpa using g1, g2⟩
theorem readsAll_len : ∀ {xs : List D} {h : Heap} {vs : List Value} {as : List Addr}, ReadsAll h vs (pys xs) as → vs.length = xs.length
  | [], _, vs, _, h => by
    cases h
    rfl
  | x :: xs, hp, vs, as, h => by
    have h2 : ReadsAll hp vs (py x :: pys xs) as := h
    cases h2 with
    | cons r1 r2 => rw [List.length_cons, List.length_cons, readsAll_len r2]
theorem depth_mem : ∀ {xs : List D} {j : Nat} {x : D}, xs[j]? = some x → (py x).depth ≤ PyData.depthAll (pys xs)
  | [], _, _, h => by simp at h
  | x :: xs, 0, y, h => by
    have e : x = y := by simpa using h
    rw [← e]
    exact Nat.le_max_left _ _
  | x :: xs, j + 1, y, h => Nat.le_trans (depth_mem (j := j) (by simpa using h)) (Nat.le_max_right _ _)
theorem lay_mem : ∀ {xs : List D} {j : Nat} {x : D}, PyData.canLayAll0 (pys xs) = true → xs[j]? = some x → (py x).canLay0 = true
  | [], _, _, _, h =>
                                                                                                    by simp at h
  | x :: xs, 0, y, l, h => by
    have e : x = y := by simpa using h
    have l' : (py x).canLay0 = true ∧ PyData.canLayAll0 (pys xs) = true := by simpa only [pys, PyData.canLayAll0, Bool.and_eq_true] using l
    rw [← e]
    exact l'.1
  | x :: xs, j + 1, y, l, h => by
    have l' : (py x).canLay0 = true ∧ PyData.canLayAll0 (pys xs) = true := by simpa only [pys, PyData.canLayAll0, Bool.and_eq_true] using l
    exact lay_mem (j := j) l'.2 (by simpa using h)
/-- an operator's answer, by the three-way comparison -/
def opF : CmpOp → Ordering → Bool
  | .Lt, o => o == .lt
  | .LtE, o => o != .gt
  | .Gt, o => o == .gt
  | .GtE, o => o != .lt
  | _, _ => false
def isOrd : CmpOp → Bool
  | .Lt => true | .LtE => true | .Gt => true | .GtE => true | _ => false
theorem rc_int {op : CmpOp} (ho : isOrd op = true) {A : Around} {s : Shared} (a b : Int) (t u : Tok) : Ob.RcOp op A s (.int a t) (.int b u) (opF op (cmI a b)) := by
  have k : ∀ p : Prop, ∀ [Decidable p], ∀ c : Bool, (p ↔ c = true) → decide p = c := fun p _ c h => by
    cases c
    · exact decide_eq_false fun z => by simpa using h.mp z
    · exact decide_eq_true (h.mpr rfl)
  unfold cmI
  cases op with
  | Lt => exact (k (a < b) (opF .Lt (if a < b then .lt else if b < a then .gt else .eq)) (by (repeat' split) <;> simp [opF] <;> omega)) ▸ Ob.RcOp.lt_int a b t u
  | LtE => exact (k (a ≤ b) (opF .LtE (if a < b then .lt else if b < a then .gt else .eq)) (by (repeat' split) <;> simp [opF] <;> omega)) ▸ Ob.RcOp.le_int a b t u
  | Gt => exact (k (b < a) (opF .Gt (if a < b then .lt else if b < a then .gt else .eq)) (by (repeat' split) <;> simp [opF] <;> omega)) ▸ Ob.RcOp.gt_int a b t u
  | GtE => exact (k (b ≤ a) (opF .GtE (if a < b then .lt else if b < a then .gt else .eq)) (by (repeat' split) <;> simp [opF] <;> omega)) ▸ Ob.RcOp.ge_int a b t u
  | _ => cases ho
theorem rc_str {op : CmpOp} (ho : isOrd op = true) {A : Around} {s : Shared} (a b : Str) (t u : Tok) : Ob.RcOp op A s (.str a t) (.str b u) (opF op (cmS a.cps.toList b.cps.toList)) := by
  have k : ∀ p : Prop, ∀ [Decidable p], ∀ c : Bool, (p ↔ c = true) → decide p = c := fun p _ c h => by
    cases c
    · exact decide_eq_false fun z => by simpa using h.mp z
    · exact decide_eq_true (h.mpr rfl)
  have asy : a.cps.toList < b.cps.toList → ¬ b.cps.toList < a.cps.toList := lst_asym
  intro prog w E Q h
  unfold cmS at h
  cases op with
  | Lt =>
    refine PySem.P.lt_str ?_
    rw [k (a.cps.toList < b.cps.toList) (opF .Lt (if a.cps.toList < b.cps.toList then .lt else if b.cps.toList < a.cps.toList then .gt else .eq)) (by (repeat' split) <;> simp_all [opF])]
    exact h
  | Gt =>
    refine PySem.P.gt_str ?_
    rw [k (b.cps.toList < a.cps.toList) (opF .Gt (if a.cps.toList < b.cps.toList then .lt else if b.cps.toList < a.cps.toList then .gt else .eq)) (by (repeat' split) <;> simp_all [opF])]
    exact h
  | LtE =>
    refine PySem.P.le_str ?_
    rw [k (b.cps.toList < a.cps.toList) (!opF .LtE (if a.cps.toList < b.cps.toList then .lt else if b.cps.toList < a.cps.toList then .gt else .eq)) (by (repeat' split) <;> simp_all [opF]), Bool.not_not]
    exact h
  | GtE =>
    refine PySem.P.ge_str ?_
    rw [k (a.cps.toList < b.cps.toList) (!opF .GtE (if a.cps.toList < b.cps.toList then .lt else if b.cps.toList < a.cps.toList then .gt else .eq)) (by (repeat' split) <;> simp_all [opF]), Bool.not_not]
    exact h
  | _ => cases ho
theorem rc_tup {op : CmpOp} (ho : isOrd op = true) {A : Around} {s : Shared} {l b : Addr} {items items2 : Array Value} {e r : Nat → Bool} (hl : s.heap.IsTuple l items) (hb : s.heap.IsTuple b items2) (hu : A.units < cLine)
    (he : ∀ j (h1 : j < items.size) (h2 : j < items2.size), SeqAt.EqAt A.in1 s items[j] items2[j] (e j)) (hr : ∀ j (h1 : j < items.size) (h2 : j < items2.size), e j = false → Ob.RcOp op A.in1 s items[j] items2[j] (r j)) :
    Ob.RcOp op A s (.ref l) (.ref b) (Ob.lexAt e r (opF op (cmN items.size items2.size)) 0 (min items.size items2.size)) := by
  have k : ∀ p : Prop, ∀ [Decidable p], ∀ c : Bool, (p ↔ c = true) → c = decide p := fun p _ c h => by
    cases c
    · exact (decide_eq_false fun z => by simpa using h.mp z).symm
    · exact (decide_eq_true (h.mpr rfl)).symm
  unfold cmN
  cases op with
  | Lt => rw [k (items.size < items2.size) (opF .Lt (if items.size < items2.size then .lt else if items2.size < items.size then .gt else .eq)) (by (repeat' split) <;> simp [opF] <;> omega)]; exact Ob.RcOp.tuples_lt hl hb hu he hr
  | LtE => rw [k (items.size ≤ items2.size) (opF .LtE (if items.size < items2.size then .lt else if items2.size < items.size then .gt else .eq)) (by (repeat' split) <;> simp [opF] <;> omega)]; exact Ob.RcOp.tuples_le hl hb hu he hr
  | Gt => rw [k (items.size > items2.size) (opF .Gt (if items.size < items2.size then .lt else if items2.size < items.size then .gt else .eq)) (by (repeat' split) <;> simp [opF] <;> omega)]; exact Ob.RcOp.tuples_gt hl hb hu he hr
  | GtE => rw [k (items.size ≥ items2.size) (opF .GtE (if items.size < items2.size then .lt else if items2.size < items.size then .gt else .eq)) (by (repeat' split) <;> simp [opF] <;> omega)]; exact Ob.RcOp.tuples_ge hl hb hu he hr
  | _ => cases ho
theorem rc_data {op : CmpOp} (ho : isOrd op = true) : ∀ (n : Nat) (d e : D) (A : Around) (s : Shared) (u v : Value) (as bs : List Addr), (py d).depth ≤ n → okO d e = true → (py d).canLay0 = true → (py e).canLay0 = true → Reads s.heap u (py d) as → Reads s.heap v (py e) bs → A.units + n < cLine →
    Ob.RcOp op A s u v (opF op (cmD d e)) := by
  intro n
  induction n with
  | zero =>
    intro d e A s u v as bs hn ok l1 l2 r1 r2 hu
    cases d with
    | int a =>
      cases e with
      | int b => cases r1; cases r2; exact rc_int ho a b _ _
      | _ => simp [okO] at ok
    | str a =>
      cases e with
      | str b => cases r1; cases r2; exact rc_str ho a b _ _
      | _ => simp [okO] at ok
    | tup xs => exact absurd (show PyData.depthAll (pys xs) + 1 ≤ 0 from hn) (by omega)
    | _ => cases e <;> simp [okO] at ok
  | succ n ih =>
    intro d e A s u v as bs hn ok l1 l2 r1 r2 hu
    cases d with
    | int a =>
      cases e with
      | int b => cases r1; cases r2; exact rc_int ho a b _ _
      | _ => simp [okO] at ok
    | str a =>
      cases e with
      | str b => cases r1; cases r2; exact rc_str ho a b _ _
      | _ => simp [okO] at ok
    | tup xs =>
      cases e with
      | tup ys =>
        have r1' : Reads s.heap u (.tuple (pys xs)) as := r1
        have r2' : Reads s.heap v (.tuple (pys ys)) bs := r2
        have ok' : okOs xs ys = true := by simpa only [okO] using ok
        have l1' : PyData.canLayAll0 (pys xs) = true := l1
        have l2' : PyData.canLayAll0 (pys ys) = true := l2
        have hn' : PyData.depthAll (pys xs) + 1 ≤ n + 1 := hn
        cases r1' with
        | @tuple a o vs m _ as' h1 h2 h3 h4 =>
          cases r2' with
          | @tuple a' o' vs' m' _ as'' g1 g2 g3 g4 =>
            have z1 := readsAll_len h4
            have z2 := readsAll_len g4
            have hz1 : vs.size = xs.length := by rw [← z1]; simp
            have hz2 : vs'.size = ys.length := by rw [← z2]; simp
            have at1 : ∀ j (h : j < vs.size), ∃ x bs, xs[j]? = some x ∧ Reads s.heap vs[j] (py x) bs := fun j h => readsAll_at h4 (by simp [h])
            have at2 : ∀ j (h : j < vs'.size), ∃ y bs, ys[j]? = some y ∧ Reads s.heap vs'[j] (py y) bs := fun j h => readsAll_at g4 (by simp [h])
            have key := rc_tup ho (A := A) (s := s) (e := fun j => eqv (xs.getD j .non) (ys.getD j .non)) (r := fun j => opF op (cmD (xs.getD j .non) (ys.getD j .non))) ⟨o, h1, h2, m, h3⟩ ⟨o', g1, g2, m', g3⟩ (by omega)
              (fun j hj1 hj2 => by
                obtain ⟨x, b1, e1, q1⟩ := at1 j hj1
                obtain ⟨y, b2, e2, q2⟩ := at2 j hj2
                rw [show xs.getD j .non = x by simp [e1], show ys.getD j .non = y by simp [e2]]
                have hd := depth_mem e1
                exact SeqAt.eqAt_reads (py x) (py y) A.in1 s _ _ _ _ q1 q2 (lay_mem l1' e1) (lay_mem l2' e2) (by
                  have := Nat.min_le_left (py x).depth (py y).depth
                  show A.units + 1 + _ < cLine
                  omega))
              (fun j hj1 hj2 _ => by
                obtain ⟨x, b1, e1, q1⟩ := at1 j hj1
                obtain ⟨y, b2, e2, q2⟩ := at2 j hj2
                rw [show xs.getD j .non = x by simp [e1], show ys.getD j .non = y by simp [e2]]
                have hd := depth_mem e1
                exact ih x y A.in1 s _ _ _ _ (by omega) (okOs_get ok' e1 e2) (lay_mem l1' e1) (lay_mem l2' e2) q1 q2 (by show A.units + 1 + n < cLine; omega))
            rw [hz1, hz2] at key
            have q := lexAt_eq (fun j => eqv (xs.getD j .non) (ys.getD j .non)) (fun j => opF op (cmD (xs.getD j .non) (ys.getD j .non))) (opF op) (fun _ _ => trivial) xs ys 0 (fun j x y e1 e2 => by
              simp only [Nat.zero_add]
              rw [show xs.getD j .non = x by simp [e1], show ys.getD j .non = y by simp [e2]]
              exact ⟨eqv_cm x y (okOs_get ok' e1 e2), fun _ => rfl⟩)
            rw [q] at key
            simpa only [cmD] using key
      | _ => simp [okO] at ok
    | _ => cases e <;> simp [okO] at ok
end Mp
end
section
/-! Mp: the operators by data. -/
namespace Mp
open PySem PySem.Spec
                                                                                                    PyProof.Rows L2

/-- what is asked of a situation, the slots aside -/
structure Sit0 (W : Wp) (q : Sit) (st : S) (H : Hp) : Prop where
  sS : q.Z.aS ∈ q.B
  sL : q.Z.aL ∈ q.B
  w : Wld W q.Z st H
  hB : ∀ a ∈ q.B, (∃ xs, H a = some (.lst xs)) ∨ ∃ kvs, H a = some (.dK kvs)
section
variable {W : Wp} {q : Sit} {st st' : S} {H H' : Hp} {σ : L2.St} {vs : List Nat}
theorem At.s0 (a : At W q st vs σ H) : Sit0 W q st H := ⟨a.sS, a.sL, a.w, a.hB⟩
theorem Sit0.grow (a : Sit0 W q st H) (g : Grow q.Z H H') (w : Wld W q.Z st' H') : Sit0 W q st' H' := ⟨a.sS, a.sL, w, fun b hb => mu_grow (a.hB b hb) g w⟩
theorem Sit0.no (a : Sit0 W q st H) {p : Addr} (h : H p = none) : p ∉ q.B := fun hp => by
  rcases a.hB p hp with ⟨xs, e⟩ | ⟨xs, e⟩ <;> (rw [h] at e; cases e)
theorem Sit0.le (a : Sit0 W q st H) (g : Grow q.Z H H') : Le (hid q.B H) (hid q.B H') := g.le a.sS a.sL
theorem Sit0.tup (a : Sit0 W q st H) {xs : List D} {v : V} (h : Rep W q.Z (hid q.B H) (.tup xs) v) : ∃ p vs, v = .ref p ∧ H p = some (.tup vs) ∧ Reps W q.Z (hid q.B H) xs vs := by
  obtain ⟨p, vs, e, h1, h2⟩ := h
  exact ⟨p, vs, e, (hid_some h1).2, h2⟩
theorem Sit0.lst (a : Sit0 W q st H) {xs : List D} {v : V} (h : Rep W q.Z (hid q.B H) (.lst xs) v) : ∃ p vs, v = .ref p ∧ H p = some (.lst vs) ∧ Reps W q.Z (hid q.B H) xs vs := by
  obtain ⟨p, vs, e, h1, h2⟩ := h
  exact ⟨p, vs, e, (hid_some h1).2, h2⟩
end
/-- Q is wanted of a value that stands for z, the state st, new objects at most -/
def Post (W : Wp) (q : Sit) (st : S) (H : Hp) (z : D) (Q : VK) : Prop := ∀ H' v, Grow q.Z H H' → Wld W q.Z st H' → Res W q H H' true z v → Q v H'
section
variable {W : Wp} {q : Sit} {st : S} {H H1 : Hp} {z d : D} {Q : VK}
theorem Res.weak {fr : Bool} {H' : Hp} {v : V} (r : Res W q H H' true d v) : Res W q H H' fr d v := ⟨r.rep, fun _ => r.new rfl⟩
theorem Res.base {fr : Bool} {H' : Hp} {v : V} (g : Grow q.Z H1 H) (r : Res W q H H' fr d v) : Res W q H1 H' fr d v := ⟨r.rep, fun e ds h => by
  obtain ⟨p, vs, h1, h2, h3, h4⟩ := r.new e ds h
  exact ⟨p, vs, h1, g.none h2, h3, h4⟩⟩
theorem Post.val (h : Post W q st H z Q) (s : Sit0 W q st H) {v : V} (r : Rep W q.Z (hid q.B H) z v) (hz : isLst z = false) : Q v H :=
  h H v (.refl _ _) s.w ⟨r, fun _ ds e => by rw [e] at hz; cases hz⟩
theorem Post.tup {xs : List D} {vs : List V} (h : Post W q st H (.tup xs) Q) (s : Sit0 W q st H) (r : Reps W q.Z (hid q.B H) xs vs) : ∀ p, H p = none → Q (.ref p) (upd H p (.tup vs)) := fun p hp => by
  have g : Grow q.Z H (upd H p (.tup vs)) := .new hp
  exact h _ _ g (s.w.new hp) ⟨⟨p, vs, rfl, hid_of (s.no hp) (by rw [upd_same]), Reps.mono (s.le g) _ _ r⟩, fun _ ds e => by cases e⟩
theorem Post.lst {xs : List D} {vs : List V} (h : Post W q st H (.lst xs) Q) (s : Sit0 W q st H) (r : Reps W q.Z (hid q.B H) xs vs) : ∀ p, H p = none → Q (.ref p) (upd H p (.lst vs)) := fun p hp => by
  have g : Grow q.Z H (upd H p (.lst vs)) := .new hp
  refine h _ _ g (s.w.new hp) ⟨⟨p, vs, rfl, hid_of (s.no hp) (by rw [upd_same]), Reps.mono (s.le g) _ _ r⟩, fun _ ds e => ?_⟩
  cases e
  refine ⟨p, vs, rfl, hp, by rw [upd_same], Reps.mono (F := hid q.B H) (fun a o ha _ => ?_) _ _ r⟩
  obtain ⟨n, e⟩ := hid_some ha
  have na : a ≠ p := ne_of_none e hp
  exact hid_of (by simp [na, n]) (by rw [upd_ne na]; exact e)
/-- from the Fin behind a value -/
theorem Post.of {E : XK} {fr : Bool} {H0 : Hp} (h : Fin W q E (PD W q H0 fr Q) (ret z st) H1) (g0 : Grow q.Z H0 H1) : Post W q st H1 z Q := fun H' v g w r => h H' g w v ((r.weak).base g0)
end

/-! ### data as the kit reads it -/
section
variable {W : Wp} {q : Sit} {st : S} {H : Hp} {K : PySem.W.Frag}
mutual
theorem dp_of : ∀ (d : D) (v : V), (py d).canLay0 = true → Rep W q.Z (hid q.B H) d v → Dp K H v (py d)
  | .non, v, _, h => by have e : v = .non := h; rw [e]; exact .non
  | .bl b, v, _, h => by have e : v = .bl b := h; rw [e]; exact .bl b
  | .int b, v, _, h => by have e : v = .int b := h; rw [e]; exact .int b
  | .str b, v, _, h => by have e : v = .str b := h; rw [e]; exact .str b
  | .tup xs, v, l, h => by
    obtain ⟨a, vs, e, h1, h2⟩ := h
    rw [e]
    exact .tup (SqT.of (hid_some h1).2) (dps_of xs vs l h2)
  | .lst xs, v, l, h => by
    obtain ⟨a, vs, e, h1, h2⟩ := h
    rw [e]
    exact .lst (SqL.of (hid_some h1).2) (dps_of xs vs l h2)
  | .st, _, l, _ => by simp [py, PyData.canLay0] at l
  | .gl _, _, l, _ => by simp [py, PyData.canLay0] at l
  | .dic _ _, _, l, _ => by simp [py, PyData.canLay0] at l
  | .clo _ _, _, l, _ => by simp [py, PyData.canLay0] at l
theorem dps_of : ∀ (ds : List D) (vs : List V), PyData.canLayAll0 (pys ds) = true → Reps W q.Z (hid q.B H) ds vs → DpAll K H vs (pys ds)
  | [], vs, _, h => by
    have e : vs = [] := h
    rw [e]
    exact .nil
  | d :: ds, vs, l, h => by
    obtain ⟨v, r, e, h1, h2⟩ := h
    have l' : (py d).canLay0 = true ∧ PyData.canLayAll0 (pys ds) = true := by simpa only [pys, PyData.canLayAll0, Bool.and_eq_true] using l
    rw [e]
    exact .cons (dp_of d v l'.1 h1) (dps_of ds r l'.2 h2)
end
theorem any_pys (d : D) : ∀ xs : List D, (pys xs).any (fun y => PyData.eqv y (py d)) = xs.any fun z => eqv z d
  | [] => rfl
  | x :: xs => by
    show (PyData.eqv (py x) (py d) || (pys xs).any _) = _
    rw [any_pys d xs]
    rfl
end

/-! ### two-place operators -/
/-- both operands stand for data, and f of them is z -/
def rTwo (W : Wp) (f : D → D → Option D) : R2 := fun x y H Q => ∃ q st d e z, Sit0 W q st H ∧ Rep W q.Z (hid q.B H) d x ∧ Rep W q.Z (hid q.B H) e y ∧ f d e = some z ∧ Post W q st H z Q
def rCmp (W : Wp) (f : D → D → Option Bool) : R2 := fun x y H Q => ∃ q st d e k, Sit0 W q st H ∧ Rep W q.Z (hid q.B H) d x ∧ Rep W q.Z (hid q.B H) e y ∧ f d e = some k ∧ Q (.bl k) H
section
variable {X : Cx} {W : Wp}
theorem or_add : OpR X (binaryOp .Add) (rTwo W (binD .Add)) := by
  intro pins s σ H x y v u Q I rx ry ⟨q, st, d, e, z, s0, r1, r2, ez, k⟩
  unfold binD at ez
  split at ez
  case h_1 o _ _ a b eo => 
    cases ez
    cases r1
    cases r2
    exact op_add pins s σ H _ _ v u Q I rx ry ⟨a, b, rfl, rfl, k.val s0 rfl rfl⟩
  case h_6 xs ys eo =>
    split at ez
    next hz =>
      cases ez
      obtain ⟨p, vs, rfl, h1, g1⟩ := s0.tup r1
      obtain ⟨p2, vs2, rfl, h2, g2⟩ := s0.tup r2
      have l1 := g1.len
      have l2 := g2.len
      refine op_catA pins s σ H _ _ v u Q I rx ry ⟨p, p2, vs, vs2, rfl, rfl, .of h1, .of h2, by omega, fun e => ?_, fun e1 e2 => ?_, fun _ _ => k.tup s0 (g1.app g2)⟩
      · subst e
        have ex : xs = [] := List.eq_nil_of_length_eq_zero l1
        subst ex
        exact k.val s0 r2 rfl
      · subst e2
        have ex : ys = [] := List.eq_nil_of_length_eq_zero l2
        subst ex
        rw [List.append_nil] at k
        exact k.val s0 r1 rfl
    next => cases ez
  case h_7 xs ys eo =>
    split at ez
    next hz =>
      cases ez
      obtain ⟨p, vs, rfl, h1, g1⟩ := s0.lst r1
      obtain ⟨p2, vs2, rfl, h2, g2⟩ := s0.lst r2
      have l1 := g1.len
      have l2 := g2.len
      exact op_cat pins s σ H _ _ v u Q I rx ry ⟨p, p2, vs, vs2, rfl, rfl, h1, h2, by omega, k.lst s0 (g1.app g2)⟩
    next => cases ez
  all_goals first | (rename_i eo; cases eo; done) | cases ez
theorem or_bin (op : Operator) : OpR X (binaryOp op) (rTwo W (binD op)) := by
  cases op with
  | Add => exact or_add
  | Sub =>
    intro pins s σ H x y v u Q I rx ry ⟨q, st, d, e, z, s0, r1, r2, ez, k⟩
    unfold binD at ez
    split at ez
    case h_2 a b eo =>
      cases ez
      cases r1
      cases r2
      exact op_sub pins s σ H _ _ v u Q I rx ry ⟨a, b, rfl, rfl, k.val s0 rfl rfl⟩
    all_goals first | (rename_i eo; cases eo; done) | cases ez
  | Mult =>
    intro pins s σ H x y v u Q I rx ry ⟨q, st, d, e, z, s0, r1, r2, ez, k⟩
    unfold binD at ez
    split at ez
    case h_3 a b eo =>
      split at ez
      next hm =>
        cases ez
        cases r1
        cases r2
        exact op_mul pins s σ H _ _ v u Q I rx ry ⟨a, b, rfl, rfl, hm, k.val s0 rfl rfl⟩
      next => cases ez
    all_goals first | (rename_i eo; cases eo; done) | cases ez
  | FloorDiv =>
    intro pins s σ H x y v u Q I rx ry ⟨q, st, d, e, z, s0, r1, r2, ez, k⟩
    unfold binD at ez
    split at ez
    case h_4 a b eo =>
      split at ez
      next hm =>
        cases ez
        cases r1
        cases r2
        exact op_fdiv pins s σ H _ _ v u Q I rx ry ⟨a, b, rfl, rfl, hm, k.val s0 rfl rfl⟩
      next => cases ez
    all_goals first | (rename_i eo; cases eo; done) | cases ez
  | Mod =>
    intro pins s σ H x y v u Q I rx ry ⟨q, st, d, e, z, s0, r1, r2, ez, k⟩
    unfold binD at ez
    split at ez
    case h_5 a b eo =>
      split at ez
      next hm =>
        cases ez
        cases r1
        cases r2
        exact op_mod pins s σ H _ _ v u Q I rx ry ⟨a, b, rfl, rfl, hm, k.val s0 rfl rfl⟩
      next => cases ez
    all_goals first | (rename_i eo; cases eo; done) | cases ez
  | _ =>
    intro pins s σ H x y v u Q I rx ry ⟨q, st, d, e, z, s0, r1, r2, ez, k⟩
    unfold binD at ez
    split at ez
    all_goals first | (rename_i eo; cases eo; done) | cases ez

/-! ### comparisons -/
theorem shp_lay {d : D} (h : shp d = true) : (py d).canLay0 = true := SeqAt.canLay_of_shaped h
theorem or_ord {op : CmpOp} (ho : isOrd op = true) (hu : X.A.units + 64 < cLine) (f : D → D → Bool) (hf : ∀ d e, opF op (cmD d e) = f d e) :
    OpR X (richCompare op) (rCmp W fun d e => if okO d e && (shp d && shp e) then some (f d e) else none) := by
  intro pins s σ H x y v u Q I rx ry ⟨q, st, d, e, z, s0, r1, r2, ez, k⟩
  simp only at ez
  split at ez
  next hm =>
    cases ez
    simp only [Bool.and_eq_true] at hm
    obtain ⟨ok, sd, se⟩ := hm
    obtain ⟨as, a1⟩ := Dp.reads I (py d) x v (dp_of d x (shp_lay sd) r1) rx
    obtain ⟨bs, a2⟩ := Dp.reads I (py e) y u (dp_of e y (shp_lay se) r2) ry
    have hd := SeqAt.depth_of_shaped sd
    have key := rc_data (op := op) ho (py d).depth d e X.A s v u as bs (Nat.le_refl _) ok (shp_lay sd) (shp_lay se) a1 a2 (by omega)
    rw [hf] at key
    exact key _ _ _ _ ⟨.bl _, H, I, rfl, k⟩
  next => cases ez
theorem opF_lt (d e : D) : opF .Lt (cmD d e) = ltD d e := rfl
theorem opF_gt (d e : D) : opF .Gt (cmD d e) = ltD e d := by
  unfold ltD
  rw [cmD_swap d e]
  cases cmD d e <;> rfl
theorem opF_le (d e : D) : opF .LtE (cmD d e) = !ltD e d := by
  unfold ltD
  rw [cmD_swap d e]
  cases cmD d e <;> rfl
theorem opF_ge (d e : D) : opF .GtE (cmD d e) = !ltD d e := by
  unfold ltD
  cases cmD d e <;> rfl
theorem or_eqD (hu : X.A.units + 64 < cLine) : OpR X (compareOp .Eq) (rCmp W eqD) := by
  intro pins s σ H x y v u Q I rx ry ⟨q, st, d, e, z, s0, r1, r2, ez, k⟩
  unfold eqD at ez
  split at ez
  next hm =>
    cases ez
    simp only [Bool.and_eq_true] at hm
    exact op_eqD hu pins s σ H x y v u Q I rx ry ⟨py d, py e, dp_of d x (shp_lay hm.1) r1, dp_of e y (shp_lay hm.2) r2, hm.1, hm.2, k⟩
  next => cases ez
theorem or_neD (hu : X.A.units + 64 < cLine) : OpR X (compareOp .NotEq) (rCmp W fun d e => (eqD d e).map (!·)) := by
  intro pins s σ H x y v u Q I rx ry ⟨q, st, d, e, z, s0, r1, r2, ez, k⟩
  simp only [eqD] at ez
  split at ez
  next hm =>
    cases ez
    simp only [Bool.and_eq_true] at hm
    exact op_neD hu pins s σ H x y v u Q I rx ry ⟨py d, py e, dp_of d x (shp_lay hm.1) r1, dp_of e y (shp_lay hm.2) r2, hm.1, hm.2, k⟩
  next => cases ez
theorem rep_non {W : Wp} {Z : Zp} {F : Hp} : ∀ {d : D} {v : V}, Rep W Z F d v → decide (v = .non) = isNonD d
  | .non, v, h => by have e : v = .non := h; rw [e] <;> rfl
  | .bl b, v, h => by have e : v = .bl b := h; rw [e] <;> rfl
  | .int b, v, h => by have e : v = .int b := h; rw [e] <;> rfl
  | .str b, v, h => by have e : v = .str b := h; rw [e] <;> rfl
  | .tup xs, v, h => by obtain ⟨a, vs, e, _⟩ := h; rw [e] <;> rfl
  | .lst xs, v, h => by obtain ⟨a, vs, e, _⟩ := h; rw [e] <;> rfl
  | .st, v, h => by have e : v = .ref Z.aS := h; rw [e] <;> rfl
  | .gl _, v, h => by obtain ⟨f, _, e⟩ := h; rw [e] <;> rfl
  | .dic _ _, v, h => by obtain ⟨a, vs, e, _⟩ := h; rw [e] <;> rfl
  | .clo _ _, v, h => by obtain ⟨L, f, cl, c', vs, _, e, _⟩ := h; rw [e] <;> rfl
theorem or_is : OpR X (compareOp .Is) (rCmp W (cmpD .Is)) := by
  intro pins s σ H x y v u Q I rx ry ⟨q, st, d, e, z, s0, r1, r2, ez, k⟩
  cases e with
  | non =>
    have ey : y = .non := r2
    refine op_isN pins s σ H x y v u Q I rx ry ⟨ey, ?_⟩
    rw [rep_non r1]
    simp only [cmpD, Option.some.injEq] at ez
    rw [ez]
    exact k
  | _ => simp [cmpD] at ez
theorem or_isNot : OpR X (compareOp .IsNot) (rCmp W (cmpD .IsNot)) := by
  intro pins s σ H x y v u Q I rx ry ⟨q, st, d, e, z, s0, r1, r2, ez, k⟩
  cases e with
  | non =>
    have ey : y = .non := r2
    refine op_notN pins s σ H x y v u Q I rx ry ⟨ey, ?_⟩
    rw [rep_non r1]
    simp only [cmpD, Option.some.injEq] at ez
    rw [ez]
    exact k
  | _ => simp [cmpD] at ez
theorem rep_key {W : Wp} {Z : Zp} {F : Hp} {d : D} {v : V} {k : Key} (h : Rep W Z F d v) (e : keyD d = some k) : v = kV k := by
  cases d <;> simp only [keyD] at e <;> first | (cases e; done) | (cases e; exact h)
theorem dict_isSome (ks : List Key) : ∀ (vs : List V) (k : Key), ks.length = vs.length → (valV (ks.zip vs) k).isSome = hasK k ks := by
  induction ks with
  | nil => intro vs k _; rfl
  | cons a ks ih =>
    intro vs k h
    cases vs with
    | nil => simp at h
    | cons v vs =>
      have ih' := ih vs k (by simpa using h)
      rw [List.zip_cons_cons]
      by_cases e : a = k
      · rw [valV_pos (p := (a, v)) e]
        simp [hasK, e]
      · rw [valV_neg (p := (a, v)) e, ih']
        simp [hasK, e]
theorem dict_get {W : Wp} {Z : Zp} {F : Hp} : ∀ {ks : List Key} {xs : List D} {vs : List V} {k : Key} {z : D}, Reps W Z F xs vs → getK k ks xs = some z → ∃ v, valV (ks.zip vs) k = some v ∧ Rep W Z F z v
  | [], _, _, _, _, _, h => by simp [getK] at h
  | a :: ks, [], _, _, _, _, h => by simp [getK] at h
  | a :: ks, x :: xs, vs, k, z, r, h => by
    obtain ⟨v, us, e, r1, r2⟩ := r
    rw [e, List.zip_cons_cons]
    unfold getK at h
    by_cases q : a = k
    · rw [if_pos q] at h
      cases h
      exact ⟨v, by rw [valV_pos (p := (a, v)) q], r1⟩
    · rw [if_neg q] at h
      obtain ⟨w, h1, h2⟩ := dict_get r2 h
      exact ⟨w, by rw [valV_neg (p := (a, v)) q]; exact h1, h2⟩
theorem Sit0.dic {W : Wp} {q : Sit} {st : S} {H : Hp} (a : Sit0 W q st H) {ks : List Key} {xs : List D} {v : V} (h : Rep W q.Z (hid q.B H) (.dic ks xs) v) : ∃ p vs, v = .ref p ∧ H p = some (.dK (ks.zip vs)) ∧ ks.length = vs.length ∧ Reps W q.Z (hid q.B H) xs vs := by
  obtain ⟨p, vs, e, h1, h2, h3⟩ := h
  exact ⟨p, vs, e, (hid_some h1).2, h2, h3⟩
theorem room_in {d : D} {n : Nat} (h : shp d = true) (hu : X.A.units + 65 < cLine) : X.A.units + 1 + min n (py d).depth < cLine := by
  have h1 : (py d).depth ≤ 64 := SeqAt.depth_of_shaped h
  have := Nat.min_le_right n (py d).depth
  omega
theorem or_in (hu : X.A.units + 65 < cLine) : OpR X (compareOp .In) (rCmp W (cmpD .In)) := by
  intro pins s σ H x y v u Q I rx ry ⟨q, st, d, e, z, s0, r1, r2, ez, k⟩
  cases e with
  | lst xs =>
    simp only [cmpD] at ez
    split at ez
    next hm =>
      cases ez
      simp only [Bool.and_eq_true] at hm
      refine op_inD hu pins s σ H x y v u Q I rx ry ⟨py d, pys xs, dp_of d x (shp_lay hm.1) r1, dp_of (.lst xs) y (shp_lay hm.2) r2, hm.1, hm.2, ?_⟩
      rw [any_pys]
      exact k
    next => cases ez
  | tup xs =>
    simp only [cmpD] at ez
    split at ez
    next hm =>
      cases ez
      simp only [Bool.and_eq_true] at hm
      obtain ⟨as, a1⟩ := Dp.reads I (py d) x v (dp_of d x (shp_lay hm.1) r1) rx
      obtain ⟨bs, a2⟩ := Dp.reads I (.tuple (pys xs)) y u (dp_of (.tup xs) y (shp_lay hm.2) r2) ry
      refine SeqAt.in_tuple_reads a2 a1 (show PyData.canLayAll0 (pys xs) = true from shp_lay hm.2) (shp_lay hm.1) (room_in hm.1 hu) ⟨.bl _, H, I, rfl, ?_⟩
      rw [any_pys]
      exact k
    next => cases ez
  | dic ks vs =>
    simp only [cmpD] at ez
    obtain ⟨kk, e1, e2⟩ := Option.map_eq_some_iff.mp ez
    obtain ⟨p, us, rfl, h1, h2, h3⟩ := s0.dic r2
    have ex := rep_key r1 e1
    subst ex
    cases ry
    refine d_in (o := valV (ks.zip us) kk) (by omega) I (.k h1) rx fun s' I' => ⟨.bl _, H, I', rfl, ?_⟩
    rw [dict_isSome _ _ _ h2, e2]
    exact k
  | _ => simp [cmpD] at ez
theorem or_notIn (hu : X.A.units + 65 < cLine) : OpR X (compareOp .NotIn) (rCmp W (cmpD .NotIn)) := by
  intro pins s σ H x y v u Q I rx ry ⟨q, st, d, e, z, s0, r1, r2, ez, k⟩
  cases e with
  | lst xs =>
    simp only [cmpD] at ez
    split at ez
    next hm =>
      cases ez
      simp only [Bool.and_eq_true] at hm
      refine op_notInD hu pins s σ H x y v u Q I rx ry ⟨py d, pys xs, dp_of d x (shp_lay hm.1) r1, dp_of (.lst xs) y (shp_lay hm.2) r2, hm.1, hm.2, ?_⟩
      rw [any_pys]
      exact k
    next => cases ez
  | tup xs =>
    simp only [cmpD] at ez
    split at ez
    next hm =>
      cases ez
      simp only [Bool.and_eq_true] at hm
      obtain ⟨as, a1⟩ := Dp.reads I (py d) x v (dp_of d x (shp_lay hm.1) r1) rx
      obtain ⟨bs, a2⟩ := Dp.reads I (.tuple (pys xs)) y u (dp_of (.tup xs) y (shp_lay hm.2) r2) ry
      refine SeqAt.notIn_tuple_reads a2 a1 (show PyData.canLayAll0 (pys xs) = true from shp_lay hm.2) (shp_lay hm.1) (room_in hm.1 hu) ⟨.bl _, H, I, rfl, ?_⟩
      rw [any_pys]
      exact k
    next => cases ez
  | dic ks vs =>
    simp only [cmpD] at ez
    obtain ⟨kk, e1, e2⟩ := Option.map_eq_some_iff.mp ez
    obtain ⟨p, us, rfl, h1, h2, h3⟩ := s0.dic r2
    have ex := rep_key r1 e1
    subst ex
    cases ry
    refine d_notIn (o := valV (ks.zip us) kk) (by omega) I (.k h1) rx fun s' I' => ⟨.bl _, H, I', rfl, ?_⟩
    rw [dict_isSome _ _ _ h2, e2]
    exact k
  | _ => simp [cmpD] at ez
theorem or_cmp (op : CmpOp) (hu : X.A.units + 65 < cLine) : OpR X (compareOp op) (rCmp W (cmpD op)) := by
  have hu' : X.A.units + 64 < cLine := by omega
  cases op with
  | Eq => exact or_eqD hu'
  | NotEq => exact or_neD hu'
  | Lt => exact or_ord rfl hu' ltD opF_lt
  | Gt => exact or_ord rfl hu' (fun d e => ltD e d) opF_gt
  | LtE => exact or_ord rfl hu' (fun d e => !ltD e d) opF_le
  | GtE => exact or_ord rfl hu' (fun d e => !ltD d e) opF_ge
  | In => exact or_in hu
  | NotIn => exact or_notIn hu
  | Is => exact or_is
  | IsNot => exact or_isNot

/-! ### subscripts -/
theorem atI_rep {W : Wp} {Z : Zp} {F : Hp} {xs : List D} {vs : List V} {i : Int} {z : D} (r : Reps W Z F xs vs) (h : atI xs i = some z) : ∃ v, atI vs i = some v ∧ Rep W Z F z v := by
  unfold atI at h ⊢
  rw [← r.len]
  cases e : ixN
                                                                                                    xs.length i with
  | none => rw [e]
                                                                                                    at h; cases h
  | some j =>
    rw [e] at h
    exact r.get h
theorem ix_D (hu : X.A.units + 64 < cLine) : IxR X (fun x y H Q => ∃ q st d e z, Sit0 W q st H ∧ Rep W q.Z (hid q.B H) d x ∧ Rep W q.Z (hid q.B H) e y ∧ ixD d e = some z ∧ ∀ v, Rep W q.Z (hid q.B H) z v → Q v H) := by
  intro value slice pins s σ H x y v u Q I rx ry ⟨q, st, d, e, z, s0, r1, r2, ez, k⟩ hs
  cases d with
  | tup xs =>
    cases e with
    | int i =>
      obtain ⟨p, vs, rfl, h1, h2⟩ := s0.tup r1
      have ey : y = .int i := r2
      obtain ⟨w, g1, g2⟩ := atI_rep h2 ez
      exact ix_tup value slice pins s σ H _ y v u Q I rx ry ⟨p, vs, i, w, rfl, ey, .of h1, g1, k w g2⟩ hs
    | _ => simp [ixD] at ez
  | lst xs =>
    cases e with
    | int i =>
      obtain ⟨p, vs, rfl, h1, h2⟩ := s0.lst r1
      have ey : y = .int i := r2
      obtain ⟨w, g1, g2⟩ := atI_rep h2 ez
      exact ix_list value slice pins s σ H _ y v u Q I rx ry ⟨p, vs, i, w, rfl, ey, .of h1, g1, k w g2⟩ hs
    | _ => simp [ixD] at ez
  | dic ks xs =>
    have ez' : ((keyD e).bind fun k => getK k ks xs) = some z := by cases e <;> exact ez
    obtain ⟨kk, e1, e2⟩ := Option.bind_eq_some_iff.mp ez'
    obtain ⟨p, us, rfl, h1, h2, h3⟩ := s0.dic r1
    have ex := rep_key r2 e1
    subst ex
    obtain ⟨w, g1, g2⟩ := dict_get h3 e2
    obtain rfl : v = Value.ref p :=
                                                                                                    rx
    obtain ⟨_, _, vs2, rel, dd⟩ := dk_rd I.hok (Rd.of h1)
    refine tail_any dd.mapOf.typeIs slot_dict_getitem.lookup (d_getItem (by omega) I (g1 ▸ DGet.k h1) ry fun w' s' I' rw' => ⟨w, H, I', rw', k w g2⟩) hs
  | _ => simp [ixD] at ez
theorem cut_rep {W : Wp} {Z : Zp} {F : Hp} {xs : List D} {vs : List V} (lo hi : Option Int) (r : Reps W Z F xs vs) : Reps W Z F (cutD xs lo hi) (cutV vs lo hi) := by
  unfold cutD cutV
  rw [← r.len]
  exact (r.drop _).take _
theorem sl_D : SlR X (fun x lo hi H Q => ∃ q st d z, Sit0 W q st H ∧ Rep W q.Z (hid q.B H) d x ∧ slD d lo hi = some z ∧ Post W q st H z Q) := by
  intro pins s σ H x v vl vu lo hi sl Q I rx hs pl pu ⟨q, st, d, z, s0, r1, ez, k⟩
  cases d with
  | tup xs =>
    cases ez
    obtain ⟨p, vs, rfl, h1, h2⟩ := s0.tup r1
    refine sl_tupA pins s σ H _ v vl vu lo hi sl Q I rx hs pl pu ⟨p, vs, rfl, .of h1, fun hw => ?_, fun _ => k.tup s0 (cut_rep lo hi h2)⟩
    have e : cutD xs lo hi = xs := by
      unfold cutD
      rw [h2.len, hw.1, hw.2]
      simp [← h2.len]
    rw [e] at k
    exact k.val s0 r1 rfl
  | lst xs =>
    cases ez
    obtain ⟨p, vs, rfl, h1, h2⟩ := s0.lst r1
    exact sl_list pins s σ H _ v vl vu lo hi sl Q I rx hs pl pu ⟨p, vs, rfl, .of h1, k.lst s0 (cut_rep lo hi h2)⟩
  | _ => cases ez

/-! ### truth, len -/
theorem empty_rep {W : Wp} {Z : Zp} {F : Hp} {xs : List D} {vs : List V} (r : Reps W Z F xs vs) : xs.isEmpty = vs.isEmpty := by
  have := r.len
  cases xs <;> cases vs <;> first | rfl | simp at this
theorem truV_D {W : Wp} {q : Sit} {st : S} {H : Hp} {K : PySem.W.Frag} (s0 : Sit0 W q st H) : ∀ {d : D} {v : V} {k : Bool}, Rep W q.Z (hid q.B H) d v → truthD d = some k → TruV K v H k
  | .non, v, k, r, h => by
    have e : v = .non := r
    cases h
    rw [e]
    exact rfl
  | .bl b, v, k, r, h => by
    have e : v = .bl b := r
    cases h
    rw [e]
    exact rfl
  | .int i, v, k, r, h => by
    have e : v = .int i := r
    cases h
    rw [e]
    exact rfl
  | .tup xs, v, k, r, h => by
    obtain ⟨p, vs, rfl, h1, h2⟩ := s0.tup r
    cases h
    exact .inr (.inl ⟨vs, .of h1, by rw [empty_rep h2]⟩)
  | .lst xs, v, k, r, h => by
    obtain ⟨p, vs, rfl, h1, h2⟩ := s0.lst r
    cases h
    exact .inl ⟨vs, .of h1, by rw [empty_rep h2]⟩
  | .str _, _, _, _, h => by cases h
  | .st, _, _, _, h => by cases h
  | .gl _, _, _, _, h => by cases h
  | .dic _ _, _, _, _, h => by cases h
  | .clo _ _, _, _, _, h => by cases h
end
end Mp
end
section
/-! Mp: expressions, node by node. -/
namespace Mp
open PySem PySem.Spec
                                                                                                    PyProof.Rows L2

theorem _root_.L2.PE.imp {X : Cx} {e : Expr} {t t' : TE} (h : PE X e t) (k : ∀ σ H Q, t' σ H Q → t σ H Q) : PE X e t' := ⟨fun pins s σ H Q I q => h.run pins s σ H Q I (k σ H Q q)⟩
theorem _root_.L2.PT.imp {X : Cx} {e : Expr} {t t' : TT} (h : PT X e t) (k : ∀ σ H Q, t' σ H Q → t σ H Q) : PT X e t' := ⟨fun pins s σ H Q I q => h.run pins s σ H Q I (k σ H Q q)⟩
theorem _root_.L2.PW.imp {X : Cx} {e : Expr} {t t' : TT} (h : PW X e t) (k : ∀ σ H Q, t' σ H Q → t σ H Q) : PW X e t' := ⟨fun wh pins s σ H Q I q => h.run wh pins s σ H Q I (k σ H Q q)⟩
theorem _root_.L2.PA.imp {X : Cx} {es : List Expr} {t t' : TA} (h : PA X es t) (k : ∀ σ H Q, t' σ H Q → t σ H Q) : PA X es t' := ⟨fun pos pins s σ H Q I q => h.run pos pins s σ H Q I (k σ H Q q)⟩

section
variable {β : Type} {W : Wp} {Γ : Gam} {q : Sit} {st : S} {E : XK} {P : β → Hp → Prop} {H : Hp} {σ : L2.St} {A B : T} {vs us : List Nat}
theorem At.left (h : At W q st (vs ++ us) σ H) : At W q st vs σ H := h.sub fun i hi => List.mem_append_left _ hi
theorem At.right (h : At W q st (vs ++ us) σ H) : At W q st us σ H := h.sub fun i hi => List.mem_append_right _ hi
/-- one expression, then f -/
theorem one {f : D → M β} {R : V → Hp → Prop} (h : At W q st (vars A) σ H) (hf : Fin W q E P (bnd (ev Γ q.ρ A) f st) H)
    (k : ∀ d st' H' x, At W q st' (vars A) σ H' → Grow q.Z H H' → Res W q H H' (fresh A) d x → Fin W q E P (f d st') H' → R x H') : tE W Γ A E σ H R :=
  ⟨q, st, h, hf.split fun d st1 _ H1 g1 w1 f1 x r => k d st1 H1 x (h.grow g1 w1) g1 r f1⟩
/-- two of them, then f -/
theorem two {f : D → D → M β} {R : V → V → Hp → Prop} (h : At W q st (vars A ++ vars B) σ H) (hf : Fin W q E P (bnd (ev Γ q.ρ A) (fun x => bnd (ev Γ q.ρ B) fun y => f x y) st) H)
    (k : ∀ d e st' H' x y, At W q st' (vars A ++ vars B) σ H' → Grow q.Z H H' → Rep W q.Z (hid q.B H') d x → Rep W q.Z (hid q.B H') e y → Fin W q E P (f d e st') H' → R x y H') :
    tE W Γ A E σ H fun x H1 => tE W Γ B E σ H1 fun y H2 => R x y H2 :=
  one h.left hf fun d st1 H1 x _ g1 r1 f1 => one (h.grow g1 (by assumption : At W q st1 (vars A) σ H1).w).right f1 fun e st2 H2 y a2 g2 r2 f2 =>
    k d e st2 H2 x y (h.grow (g1.trans g2) a2.w) (g1.trans g2) (Rep.mono (g2.le h.sS h.sL) _ _ r1.rep) r2.rep f2
/-- what is wanted of a value that is none of a new list, from a later heap -/
theorem fin_fr {Q : VK} {fr : Bool} {H1 : Hp} {r : R D} {g : Grow q.Z H H1} (f : Fin W q E (PD W q H false Q) r H1) : Fin W q E (PD W q H1 fr Q) r H1 := by
  cases r with
  | ok d st' => exact fun H' g' w v r => f H' g' w v ⟨r.rep, fun z => by cases z⟩
  | exc x st' => exact f
  | no => exact f
theorem Res.of {H' : Hp} {d : D} {v : V} (r : Rep W q.Z (hid q.B H') d v) : Res W q H H' false d v := ⟨r, fun z => by cases z⟩
theorem Res.nl {fr : Bool} {H' : Hp} {d : D} {v : V} (r : Rep W q.Z (hid q.B H') d v) (h : isLst d = false) : Res W q H H' fr d v := ⟨r, fun _ ds e => by rw [e] at h; cases h⟩
end

section
variable {X : Cx} {W : Wp} {Γ : Gam} {E : XK} {a b c : Expr} {A B C : T} {pos : Pos}
theorem r_never {e : Expr} : PE X e (tE W Γ .never E) := ⟨fun _ _ _ _ _ _ h => by obtain ⟨_, _, _, f⟩ := h; exact f.elim⟩
theorem rt_never {e : Expr} : PT X e (tT W Γ .never E) := ⟨fun _ _ _ _ _ _ h => by obtain ⟨_, _, _, f⟩ := h; exact f.elim⟩
theorem r_var {i : Nat} {x : Str} (hN : X.N[i]? = some x) (hv : Vis X.env.scope x) (hd : (x == ("__debug__" : Str)) = false) (hcd : (x == ("__classdict__" : Str)) = false) : PE X (.Name x pos) (tE W Γ (.var i) E) :=
  (pe_var hN hv hd hcd).imp fun σ H Q ⟨q, st, h, f⟩ => by
    obtain ⟨d, e, f⟩ := Fin.ofO1 f
    obtain ⟨v, h1, h2⟩ := h.see i (by simp [vars]) d e
    exact ⟨v, h1, f.ret (.refl _ _) h.w v (.of h2)⟩
theorem r_con {v : V} {d : D} (h : PE X a (tC v)) (r : ∀ Z F, Rep W Z F d v) (hd : isLst d = false) : PE X a (tE W Γ (.con d) E) :=
  h.imp fun σ H Q ⟨q, st, h, f⟩ => f.ret (.refl _ _) h.w v (.nl (r _ _) hd)
theorem r_gint {i : Int} {x : Str} (h : PE X a (tC (.int i))) : PE X a (tE W Γ (.gint x i) E) :=
  h.imp fun σ H Q ⟨q, st, h, f⟩ => f.ret (.refl _ _) h.w _ (.nl rfl rfl)
theorem r_bin {op : Operator} (ha : PE X a (tE W Γ A E)) (hb : PE X b (tE W Γ B E)) : PE X (.BinOp a op b pos) (tE W Γ (.bin op A B) E) :=
  (pe_op (or_bin op) ha hb).imp fun σ H Q ⟨q, st, h, f⟩ => two h f fun d e st' H' x y a' g r1 r2 f' => by
    obtain ⟨z, ez, f'⟩ := Fin.ofO1 f'
    exact ⟨q, st', d, e, z, a'.s0, r1, r2, ez, .of f' g⟩
theorem r_cmp {op : CmpOp} (hu : X.A.units + 65 < cLine) (hm : behindInMarks op b = false) (ha : PE X a (tE W Γ A E)) (hb : PE X b (tE W Γ B E)) : PE X (.Compare a [op] [b] pos) (tE W Γ (.cmp op A B) E) :=
  (pe_cmpR (or_cmp op hu) ha hb hm).imp fun σ H Q ⟨q, st, h, f⟩ => two h f fun d e st' H' x y a' g r1 r2 f' => by
    obtain ⟨z, ez, f'⟩ := Fin.ofO f'
    exact ⟨q, st', d, e, z, a'.s0, r1, r2, ez, f'.ret (.refl _ _) a'.w _ (.nl rfl rfl)⟩
theorem rt_cmp {op : CmpOp} (hu : X.A.units + 65 < cLine) (hm : behindInMarks op b = false) (ha : PE X a (tE W Γ A E)) (hb : PE X b (tE W Γ B E)) : PT X (.Compare a [op] [b] pos) (tT W Γ (.cmp op A B) E) :=
  (pt_cmpR (or_cmp op hu) ha hb hm).imp fun σ H Q ⟨q, st, h, f⟩ => two h f fun d e st' H' x y a' g r1 r2 f' => by
    obtain ⟨z, ez, f'⟩ := Fin.ofO1 f'
    exact ⟨q, st', d, e, z, a'.s0, r1, r2, ez, z, rfl, f'.ret (.refl _ _) a'.w⟩
theorem chn_gen {o p : CmpOp} {R : VK} {σ : L2.St} {H : Hp} {q : Sit} {st : S} {β : Type} {P : β → Hp → Prop} {f : Bool → M β} (h : At W q st (vars A ++ (vars B ++ vars C)) σ H)
    (hf : Fin W q E P (bnd (ev Γ q.ρ A) (fun x => bnd (ev Γ q.ρ B) fun y => bnd (ofO (cmpD o x y)) fun k => if k then bnd (ev Γ q.ρ C) (fun z => bnd (ofO (cmpD p y z)) f) else f false) st) H)
    (k : ∀ z st' H', At W q st' (vars A ++ (vars B ++ vars C)) σ H' → Grow q.Z H H' → Fin W q E P (f z st') H' → R (.bl z) H') :
    tChain (rCmp W (cmpD o)) (rCmp W (cmpD p)) (tE W Γ A E) (tE W Γ B E) (tE W Γ C E) σ H R :=
  two (h.sub fun i hi => by simp only [List.mem_append] at hi ⊢; rcases hi with hi | hi <;> simp [hi]) hf fun d e st' H' x y a' g r1 r2 f' => by
    obtain ⟨z, ez, f'⟩ := Fin.ofO f'
    have hh := h.grow g a'.w
    refine ⟨q, st', d, e, z, a'.s0, r1, r2, ez, z, rfl, ?_⟩
    cases z with
    | false =>
      rw [if_neg (by decide)] at f' ⊢
      exact k false st' H' hh g f'
    | true =>
      rw [if_pos rfl] at f' ⊢
      refine one hh.right.right f' fun d3 st3 H3 x3 a3 g3 r3 f3 => ?_
      obtain ⟨z3, ez3, f3⟩ := Fin.ofO f3
      exact ⟨q, st3, e, d3, z3, a3.s0, Rep.mono (g3.le h.sS h.sL) _ _ r2, r3.rep, ez3, k z3 st3 H3 (hh.grow g3 a3.w) (g.trans g3) f3⟩
theorem r_chn {o p : CmpOp} (hu : X.A.units + 65 < cLine) (hm : lastMarks [o, p] [b, c] = false) (ha : PE X a (tE W Γ A E)) (hb : PE X b (tE W Γ B E)) (hc : PE X c (tE W Γ C E)) : PE X (.Compare a [o, p] [b, c] pos) (tE W Γ (.chn o p A B C) E) :=
  (pe_chain (or_cmp o hu) (or_cmp p hu) ha hb hc hm).imp fun σ H Q ⟨q, st, h, f⟩ =>
    chn_gen (P := PD W q H false Q) (f := fun c => ret (D.bl c)) h f fun z st' H' a' g f' => f'.ret (.refl _ _) a'.w _ (.nl rfl rfl)
theorem rt_chn {o p : CmpOp} (hu : X.A.units + 65 < cLine) (hm : lastMarks [o, p] [b, c] = false) (ha : PE X a (tE W Γ A E)) (hb : PE X b (tE W Γ B E)) (hc : PE X c (tE W Γ C E)) : PT X (.Compare a [o, p] [b, c] pos) (tT W Γ (.chn o p A B C) E) :=
  (pt_chain (or_cmp o hu) (or_cmp p hu) ha hb hc hm).imp fun σ H Q ⟨q, st, h, f⟩ =>
    chn_gen (f := fun c => ret c) h (by
      have e : ∀ m : M Bool, m = bnd m fun c => ret c := fun m => by
        funext s
        unfold bnd
        cases m s <;> rfl
      have e2 : ∀ y, (fun z => ofO (cmpD p y z)) = fun z => bnd (ofO (cmpD p y z)) fun c => ret c := fun y => funext fun z => e _
      simp only [← e2]
      exact f) fun z st' H' a' g f' => ⟨z, rfl, f'.ret (.refl _ _) a'.w⟩

/-! ### one operand -/
theorem r_neg (ha : PE X a (tE W Γ A E)) : PE X (.UnaryOp .USub a pos) (tE W Γ (.neg A) E) :=
  (pe_un un_neg ha).imp fun σ H Q ⟨q, st, h, f⟩ => one h f fun d st' H' x a' g r f' => by
    obtain ⟨i, e, f'⟩ := Fin.ofO f'
    cases d <;> simp only [intD] at e <;> first | (cases e; done) | skip
    cases e
    exact ⟨i, r.rep, f'.ret (.refl _ _) a'.w _ (.nl rfl rfl)⟩
theorem blD_some {d : D} {b : Bool} (h : blD d = some b) : d = .bl b := by
  cases d <;> simp only [blD] at h <;> first | (cases h; done) | skip
  cases h
  rfl
theorem intD_some {d : D} {i : Int} (h : intD d = some i) : d = .int i := by
  cases d <;> simp only [intD] at h <;> first | (cases h; done) | skip
  cases h
  rfl
theorem r_nt (ha : PE X a (tE W Γ A E)) : PE X (.UnaryOp .Not a pos) (tE W Γ (.nt A) E) :=
  (pe_not ha).imp fun σ H Q ⟨q, st, h, f⟩ => one h f fun d st' H' x a' g r f' => by
    obtain ⟨b, e, f'⟩ := Fin.ofO f'
    rw [blD_some e] at r
    exact ⟨b, r.rep, f'.ret (.refl _ _) a'.w _ (.nl rfl rfl)⟩
theorem r_one {op : BoolOp} (ha : PE X a (tE W Γ A E)) : PE X (.BoolOp op [a] pos) (tE W Γ A E) := pe_one ha
theorem r_an {rest : List Expr} (ha : PE X a (tE W Γ A E)) (hb : PE X (.BoolOp .And (b :: rest) pos) (tE W Γ B E)) : PE X (.BoolOp .And (a :: b :: rest) pos) (tE W Γ (.an A B) E) :=
  (pe_and ha hb).imp fun σ H Q ⟨q, st, h, f⟩ => one h.left f fun d st' H' x a' g r f' => by
    obtain ⟨k, e, f'⟩ := Fin.ofO f'
    rw [blD_some e] at r
    refine ⟨k, r.rep, ?_⟩
    cases k with
    | false =>
      rw [if_neg (by decide)] at f' ⊢
      exact f'.ret (.refl _ _) a'.w _ (.nl rfl rfl)
    | true =>
      rw [if_pos rfl] at f' ⊢
      exact ⟨q, st', (h.grow g a'.w).right, fin_fr (g := g) f'⟩
theorem r_orr {rest : List Expr} (ha : PE X a (tE W Γ A E)) (hb : PE X (.BoolOp .Or (b :: rest) pos) (tE W Γ B E)) : PE X (.BoolOp .Or (a :: b :: rest) pos) (tE W Γ (.orr A B) E) :=
  (pe_or ha hb).imp fun σ H Q ⟨q, st, h, f⟩ => one h.left f fun d st' H' x a' g r f' => by
    obtain ⟨k, e, f'⟩ := Fin.ofO f'
    rw [blD_some e] at r
    refine ⟨k, r.rep, ?_⟩
    cases k with
    | true =>
      rw [if_pos rfl] at f' ⊢
      exact f'.ret (.refl _ _) a'.w _ (.nl rfl rfl)
    | false =>
      rw [if_neg (by decide)] at f' ⊢
      exact ⟨q, st', (h.grow g a'.w).right, fin_fr (g := g) f'⟩
theorem r_ite (hc : PT X c (tT W Γ C E)) (ha : PE X a (tE W Γ A E)) (hb : PE X b (tE W Γ B E)) : PE X (.IfExp c a b pos) (tE W Γ (.ite C A B) E) :=
  (pe_ifExp hc ha hb).imp fun σ H Q ⟨q, st, h, f⟩ => ⟨q, st, h.left, f.split fun k st' f0 H' g w f' => by
    cases k with
    | true =>
      rw [if_pos rfl] at f' ⊢
      exact ⟨q, st', (h.grow g w).right.left, fin_fr (g := g) f'⟩
    | false =>
      rw [if_neg (by decide)] at f' ⊢
      exact ⟨q, st', (h.grow g w).right.right, fin_fr (g := g) f'⟩⟩
end
end Mp
end
section
/-! Mp: tests, displays, built-in functions. -/
namespace Mp
open PySem PySem.Spec
                                                                                                    PyProof.Rows L2

section
variable {X : Cx} {W : Wp} {Γ : Gam} {E : XK} {a b c e : Expr} {A B C : T} {pos : Pos} {es : List Expr} {ts : List T}
/-! ### tests -/
theorem rt_nt (ha : PT X a (tT W Γ A E)) : PT X (.UnaryOp .Not a pos) (tT W Γ (.nt A) E) :=
  (pt_not ha).imp fun σ H Q ⟨q, st, h, f⟩ => ⟨q, st, h, f.split fun k st' f0 H' g w f' => f'.ret (.refl _ _) w⟩
theorem w_one {op : BoolOp} (ha : PT X a (tT W Γ A E)) : PW X (.BoolOp op [a] pos) (tT W Γ A E) := by
  cases op with
  | And => exact pw_and1 ha
  | Or => exact pw_or1 ha
theorem w_an {rest : List Expr} (ha : PT X a (tT W Γ A E)) (hb : PW X (.BoolOp .And (b :: rest) pos) (tT W Γ B E)) : PW X (.BoolOp .And (a :: b :: rest) pos) (tT W Γ (.an A B) E) :=
  (pw_and ha hb).imp fun σ H Q ⟨q, st, h, f⟩ => ⟨q, st, h.left, f.split fun k st' f0 H' g w f' => by
    cases k with
    | false =>
      rw [if_neg (by decide)] at f' ⊢
      exact f'.ret (.refl _ _) w
    | true =>
      rw [if_pos rfl] at f' ⊢
      exact ⟨q, st', (h.grow g w).right, f'⟩⟩
theorem w_orr {rest : List Expr} (ha : PT X a (tT W Γ A E)) (hb : PW X (.BoolOp .Or (b :: rest) pos) (tT W Γ B E)) : PW X (.BoolOp .Or (a :: b :: rest) pos) (tT W Γ (.orr A B) E) :=
  (pw_or ha hb).imp fun σ H Q ⟨q, st, h, f⟩ => ⟨q, st, h.left, f.split fun k st' f0 H' g w f' => by
    cases k with
    | true =>
      rw [if_pos rfl] at f' ⊢
      exact f'.ret (.refl _ _) w
    | false =>
      rw [if_neg (by decide)] at f' ⊢
      exact ⟨q, st', (h.grow g w).right, f'⟩⟩
/-- any expression whose test is its value's truth -/
theorem rt_truth (hA : ∀ ρ, tst Γ ρ A = bnd (ev Γ ρ A) fun x => ofO (truthD x)) (ha : PE X a (tE W Γ A E)) (he : ∀ whole, isTrue a X.env whole = (do let v ← whole; standAt a.pos; holding [v] (truthy v))) : PT X a (tT W Γ A E) :=
  (pt_truth ha he).imp fun σ H Q ⟨q, st, h, f⟩ => by
    rw [hA] at f
    refine one h f fun d st' H' x a' g r f' => ?_
    obtain ⟨k, ek, f'⟩ := Fin.ofO1 f'
    exact ⟨k, truV_D a'.s0 r.rep ek, f'.ret (.refl _ _) a'.w⟩

/-! ### argument lists, displays -/
theorem r_nil : PA X [] (tA W Γ [] E) := pa_nil.imp fun σ H Q ⟨q, st, h, f⟩ => f.ret (.refl _ _) h.w [] rfl
theorem r_cons (ha : PE X e (tE W Γ A E)) (hr : PA X es (tA W Γ ts E)) (hs : starEach (e :: es) X.env = (false, eval e X.env) :: starEach es X.env) : PA X (e :: es) (tA W Γ (A :: ts) E) :=
  (pa_cons ha hr hs).imp fun σ H Q ⟨q, st, h, f⟩ => one h.left f fun d st' H' x a' g r f' =>
    ⟨q, st', (h.grow g a'.w).right, f'.split fun ds st2 f0 H2 g2 w2 f2 vs rs => f2.ret (.refl _ _) w2 (x :: vs) (.cons (Rep.mono (g2.le h.sS h.sL) _ _ r.rep) rs)⟩
section
variable {β : Type} {q : Sit} {st : S} {P : β → Hp → Prop} {H : Hp} {σ : L2.St}
/-- an argument list, then f -/
theorem many {f : List D → M β} {R : List V → Hp → Prop} (h : At W q st (varss ts) σ H) (hf : Fin W q E P (bnd (evs Γ q.ρ ts) f st) H)
    (k : ∀ ds st' H' xs, At W q st' (varss ts) σ H' → Grow q.Z H H' → Reps W q.Z (hid q.B H') ds xs → Fin W q E P (f ds st') H' → R xs H') : tA W Γ ts E σ H R :=
  ⟨q, st, h, hf.split fun ds st1 _ H1 g1 w1 f1 xs r => k ds st1 H1 xs (h.grow g1 w1) g1 r f1⟩
end
theorem r_tup {k : Nat} (h : PA X es (tA W Γ ts E)) : PE X (.Tuple es k pos) (tE W Γ (.tup ts) E) :=
  (pe_tup h).imp fun σ H Q ⟨q, st, h, f⟩ => many h f fun ds st' H' xs a' g r f' => by
    obtain ⟨hz, f'⟩ := Fin.if_ f'
    exact ⟨by rw [← r.len]; exact hz, (Post.of f' g).tup a'.s0 r⟩
theorem r_lst (h : PA X es (tA W Γ ts E)) : PE X (.List es pos) (tE W Γ (.lst ts) E) :=
  (pe_lst h).imp fun σ H Q ⟨q, st, h, f⟩ => many h f fun ds st' H' xs a' g r f' => by
    obtain ⟨hz, f'⟩ := Fin.if_ f'
    exact ⟨by rw [← r.len]; exact hz, (Post.of f' g).lst a'.s0 r⟩

/-! ### subscripts, slices -/
theorem r_ix (hu : X.A.units + 65 < cLine) (ha : PE X a (tE W Γ A E)) (hb : PE X b (tE W Γ B E)) (hs : PlainIx b) : PE X (.Subscript a b pos) (tE W Γ (.ix A B) E) :=
  (pe_ix (ix_D (by omega)) ha hb hs).imp fun σ H Q ⟨q, st, h, f⟩ => two h f fun d e st' H' x y a' g r1 r2 f' => by
    obtain ⟨z, ez, f'⟩ := Fin.ofO1 f'
    exact ⟨q, st', d, e, z, a'.s0, r1, r2, ez, fun v rv => f'.ret (.refl _ _) a'.w v (.of rv)⟩
def tO (W : Wp) (Γ : Gam) (t : Option T) (E : XK) : TO := fun σ H Q => ∃ q st, At W q st (varso t) σ H ∧ Fin W q E Q (evo Γ q.ρ t st) H
theorem o_none : PO X none (tO W Γ none E) := ⟨fun pins s σ H Q I ⟨q, st, h, f⟩ => po_none.run pins s σ H Q I (f.ret (.refl _ _) h.w)⟩
theorem o_some (ha : PE X a (tE W Γ A E)) : PO X (some a) (tO W Γ (some A) E) := ⟨fun pins s σ H Q I ⟨q, st, h, f⟩ => (po_some ha).run pins s σ H Q I (one h f fun d st' H' x a' g r f' => by
    obtain ⟨i, ei, f'⟩ := Fin.ofO f'
    rw [intD_some ei] at r
    exact ⟨i, r.rep, f'.ret (.refl _ _) a'.w⟩)⟩
theorem r_sl {lo hi : Option Expr} {L U : Option T} {p2 : Pos} (ha : PE X a (tE W Γ A E)) (hl : PO X lo (tO W Γ L E)) (hh : PO X hi (tO W Γ U E)) : PE X (.Subscript a (.Slice lo hi none p2) pos) (tE W Γ (.sl A L U) E) :=
  (pe_slice sl_D ha hl hh).imp fun σ H Q ⟨q, st, h, f⟩ => one h.left f fun d st' H' x a' g r f' =>
    ⟨q, st', (h.grow g a'.w).right.left, f'.split fun l st2 f0 H2 g2 w2 f2 => ⟨q, st2, ((h.grow g a'.w).grow g2 w2).right.right, f2.split fun u st3 f0 H3 g3 w3 f3 => by
      obtain ⟨z, ez, f3⟩ := Fin.ofO1 f3
      have g' := (g.trans g2).trans g3
      exact ⟨q, st3, d, z, (h.grow g' w3).s0, Rep.mono ((g2.trans g3).le h.sS h.sL) _ _ r.rep, ez, .of f3 g'⟩⟩⟩

/-! ### isinstance -/
theorem kit_all : ∀ n ∈ tyNames, ∀ t ∈ tyNames, kitB n t = some (tyIs n t) := by decide +kernel
theorem tyN_mem {d : D} {n : String} (h : tyN d = some n) : n ∈ tyNames := by
  cases d <;> simp only [tyN] at h <;> first | (cases h; done) | (cases h; decide)
theorem tyx_of {q : Sit} {st : S} {H : Hp} {K : PySem.W.Frag} (s0 : Sit0 W q st H) {d : D} {v : V} {n : String} (r : Rep W q.Z (hid q.B H) d v) (h : tyN d = some n) : TyX K H v (.type n) := by
  cases d with
  | non => cases h; cases r; exact .base .non
  | bl b => cases h; cases r; exact .base (.bl b)
  | int b => cases h; cases r; exact .base (.int b)
  | str b => cases h; cases r; exact .base (.str b)
  | tup xs =>
    cases h
    obtain ⟨p, vs, rfl, h1, h2⟩ := s0.tup r
    exact .base (.tup h1)
  | lst xs =>
    cases h
    obtain ⟨p, vs, rfl, h1, h2⟩ := s0.lst r
    exact .base (.lst h1)
  | dic ks xs =>
    cases h
    obtain ⟨p, vs, rfl, h1, h2⟩ := s0.dic r
    exact .base (.dK h1)
  | _ => cases h
theorem r_isi {x t : Str} {ty : String} {p : Pos} (ha : PE X a (tE W Γ A E)) (ht : PE X e (tC (.ty ty))) (hg : Gl X x) (hm : X.mg x = none) (hv : bootBuiltins x = some (.builtin "isinstance")) (hn : x ≠ "__name__") (hdb : (x == ("__debug__" : Str)) = false)
    (s1 : starEach [a, e] X.env = (false, eval a X.env) :: starEach [e] X.env) (s2 : starEach [e] X.env = (false, eval e X.env) :: starEach [] X.env) (hpl : (backTo pos (starEach [e] X.env)).any (·.1) = false) :
    PE X (.Call (.Name x p) [a, e] [] pos) (tE W Γ (.isi A ty) E) :=
  (pe_callB call_isi hg hm hv (pa_cons ha (pa_cons ht pa_nil s2) s1) hn hdb s1 hpl).imp fun σ H Q ⟨q, st, h, f⟩ => one h f fun d st' H' x a' g r f' => by
    obtain ⟨k, ek, f'⟩ := Fin.ofO f'
    unfold tyD at ek
    split at ek
    case h_2 => cases ek
    case h_1 n en =>
      split at ek
      next ht =>
        cases ek
        exact ⟨x, .ty ty, .type n, .type ty, _, rfl, .ty ty, tyx_of a'.s0 r.rep en, kit_ty (kit_all n (tyN_mem en) ty (by simpa using ht)), f'.ret (.refl _ _) a'.w _ (.nl rfl rfl)⟩
      next => cases ek

/-! ### built-in functions by values -/
def rBi (W : Wp) (b : BI) : List V → Hp → VK → Prop := fun xs H Q => ∃ q st ds z, Sit0 W q st H ∧ Reps W q.Z (hid q.B H) ds xs ∧ biD b ds = some z ∧ Post W q st H z Q
theorem r_bi {bf : BI} (h : PE X a (tCB (rBi W bf) (tA W Γ ts E))) : PE X a (tE W Γ (.bi bf ts) E) :=
  h.imp fun σ H Q ⟨q, st, h, f⟩ => many h f fun ds st' H' xs a' g r f' => by
    obtain ⟨z, ez, f'⟩ := Fin.ofO1 f'
    exact ⟨q, st', ds, z, a'.s0, r, ez, .of f' g⟩
theorem reps1 {Z : Zp} {F : Hp} {d : D} {vs : List V} (h : Reps W Z F [d] vs) : ∃ v, vs = [v] ∧ Rep W Z F d v := by
  obtain ⟨v, r, e, h1, h2⟩ := h
  have e2 : r = [] := h2
  exact ⟨v, by rw [e, e2], h1⟩
theorem reps2 {Z : Zp} {F : Hp} {d e : D} {vs : List V} (h : Reps W Z F [d, e] vs) : ∃ v u, vs = [v, u] ∧ Rep W Z F d v ∧ Rep W Z F e u := by
  obtain ⟨v, r, er, h1, h2⟩ := h
  obtain ⟨u, e2, h3⟩ := reps1 h2
  exact ⟨v, u, by rw [er, e2], h1, h3⟩
/-- of one argument -/
theorem cr_one {f : Value} {b : BI} (h2 : ∀ d e, bi2 b d e = none)
    (h : ∀ (pins : List (Addr × Obj)) (s : Shared) (σ : L2.St) (H : Hp) (v : V) (us : List Value) (Q : VK) (q : Sit) (st : S) (d z : D), Inv X pins σ H s → Vals [v] us → Sit0 W q st H → Rep W q.Z (hid q.B H) d v → bi1 b d = some z → Post W q st H z Q →
      wpAny (model X.prog X.w) X.A (call f us) (EP X pins σ Q) X.xe s) : CallR X f (rBi W b) := by
  intro pins s σ H xs us Q I rs ⟨q, st, ds, z, s0, r, ez, k⟩
  match ds, ez with
  | [d], ez =>
    obtain ⟨v, rfl, r1⟩ := reps1 r
    exact h pins s σ H v us Q q st d z I rs s0 r1 ez k
  | [], ez => cases ez
  | [d, e], ez =>
    have : bi2 b d e = some z := ez
    rw [h2] at this
    cases this
  | _ :: _ :: _ :: _, ez => cases ez
/-- of two ints -/
theorem cr_two {f : Value} {b : BI} {g : Int → Int → Int} (h1 : ∀ d, bi1 b d = none) (h2 : ∀ d e z, bi2 b d e = some z → ∃ i j, d = .int i ∧ e = .int j ∧ z = .int (g i j))
    (h : CallR X f (fun xs H Q => ∃ i j, xs = [.int i, .int j] ∧ Q (.int (g i j)) H)) : CallR X f (rBi W b) := by
  intro pins s σ H xs us Q I rs ⟨q, st, ds, z, s0, r, ez, k⟩
  match ds, ez with
  | [d], ez =>
    have : bi1 b d = some z := ez
    rw [h1] at this
    cases this
  | [], ez => cases ez
  | [d, e], ez =>
    obtain ⟨i, j, rfl, rfl, rfl⟩ := h2 d e z ez
    obtain ⟨v, u, rfl, r1, r2⟩ := reps2 r
    exact h pins s σ H _ us Q I rs ⟨i, j, by rw [show v = .int i from r1, show u = .int j from r2], k.val s0 rfl rfl⟩
  | _ :: _ :: _ :: _, ez => cases ez
/-- a list or a tuple -/
theorem seq_of {q : Sit} {st : S} {H : Hp} (s0 : Sit0 W q st H) {d : D} {v : V} {xs : List D} (r : Rep W q.Z (hid q.B H) d v) (h : seqL d = some xs) :
    ∃ p vs, v = .ref p ∧ Reps W q.Z (hid q.B H) xs vs ∧ ((H p = some (.lst vs) ∧ d = .lst xs) ∨ (H p = some (.tup vs) ∧ d = .tup xs)) := by
  cases d <;> simp only [seqL] at h <;> first | (cases h; done) | skip
  · cases h
    obtain ⟨p, vs, e, h1, h2⟩ := s0.tup r
    exact ⟨p, vs, e, h2, .inr ⟨h1, rfl⟩⟩
  · cases h
    obtain ⟨p, vs, e, h1, h2⟩ := s0.lst r
    exact ⟨p, vs, e, h2, .inl ⟨h1, rfl⟩⟩
theorem cr_len : CallR X (.builtin "len") (rBi W .len) := cr_one (fun _ _ => rfl) fun pins s σ H v us Q q st d z I rs s0 r ez k => by
  have ez : lenD d = some z := ez
  cases d with
  | tup xs =>
    cases ez
    obtain ⟨p, vs, rfl, h1, h2⟩ := s0.tup r
    exact call_len pins s σ H _ us Q I rs ⟨.ref p, vs.length, rfl, .inr ⟨vs, .of h1, rfl⟩, by rw [← h2.len]; exact k.val s0 rfl rfl⟩
  | lst xs =>
    cases ez
    obtain ⟨p, vs, rfl, h1, h2⟩ := s0.lst r
    exact call_len pins s σ H _ us Q I rs ⟨.ref p, vs.length, rfl, .inl ⟨vs, .of h1, rfl⟩, by rw [← h2.len]; exact k.val s0 rfl rfl⟩
  | _ => cases ez
theorem cr_int : CallR X (.type "int") (rBi W .int) := cr_one (fun _ _ => rfl) fun pins s σ H v us Q q st d z I rs s0 r ez k => by
  cases d with
  | int i =>
    cases ez
    exact call_int1 pins s σ H _ us Q I rs (.inl ⟨i, by rw [show v = .int i from r], k.val s0 rfl rfl⟩)
  | _ => cases ez
theorem cr_tup : CallR X (.type "tuple") (rBi W .tup) := cr_one (fun _ _ => rfl) fun pins s σ H v us Q q st d z I rs s0 r ez k => by
  obtain ⟨xs, e1, e2⟩ := Option.map_eq_some_iff.mp (show (seqL d).map D.tup = some z from ez)
  subst e2
  obtain ⟨p, vs, rfl, h2, ⟨h1, ed⟩ | ⟨h1, ed⟩⟩ := seq_of s0 r e1
  · exact call_tuple_of pins s σ H _ us Q I rs ⟨p, vs, rfl, .inl ⟨.of h1, k.tup s0 h2⟩⟩
  · exact call_tuple_of pins s σ H _ us Q I rs ⟨p, vs, rfl, .inr ⟨.of h1, k.val s0 (ed ▸ r) rfl⟩⟩
theorem cr_lst : CallR X (.type "list") (rBi W .lst) := cr_one (fun _ _ => rfl) fun pins s σ H v us Q q st d z I rs s0 r ez k => by
  obtain ⟨xs, e1, e2⟩ := Option.map_eq_some_iff.mp (show (seqL d).map D.lst = some z from ez)
  subst e2
  obtain ⟨p, vs, rfl, h2, ⟨h1, ed⟩ | ⟨h1, ed⟩⟩ := seq_of s0 r e1
  · exact call_list_of pins s σ H _ us Q I rs ⟨p, vs, rfl, .inl (.of h1), k.lst s0 h2⟩
  · exact call_list_of pins s σ H _ us Q I rs ⟨p, vs, rfl, .inr (.of h1), k.lst s0 h2⟩
theorem cr_min (hc : X.calm = true) : CallR X (.builtin "min") (rBi W .min) := cr_two (fun d => by cases d <;> rfl) (fun d e z h => by
  cases d <;> cases e <;> first | (cases h; done) | (cases h; exact ⟨_, _, rfl, rfl, rfl⟩)) (call_min2 hc)
theorem cr_max (hc : X.calm = true) : CallR X (.builtin "max") (rBi W .max) := cr_two (fun d => by cases d <;> rfl) (fun d e z h => by
  cases d <;> cases e <;> first | (cases h; done) | (cases h; exact ⟨_, _, rfl, rfl, rfl⟩)) (call_max2 hc)
/-- repr of data, no repr around -/
theorem cr_rep (hu : X.A.units + 66 < cLine) (hg : X.A.guards = some []) : CallR X (.builtin "repr") (rBi W .rep) := cr_one (fun _ _ => rfl) fun pins s σ H v us Q q st d z I rs s0 r ez k => by
  have ez : (if (seqL d).isSome && (py d).showable && shp d && decide ((py d).shown.length ≤ sizeLine) then some (D.str (py d).shown) else none) = some z := ez
  split at ez
  next hm =>
    simp only [Bool.and_eq_true, decide_eq_true_eq] at hm
    obtain ⟨⟨⟨h0, h1⟩, h2⟩, h3⟩ := hm
    cases ez
    have dp := dp_of (K := X.K) d v (shp_lay h2) r
    obtain ⟨u, rfl, rv⟩ := vals1 rs
    obtain ⟨as, rd⟩ := Dp.reads I (py d) v u dp rv
    have hd := SeqAt.depth_of_shaped (show SeqAt.shaped (py d) = true from h2)
    obtain ⟨xs, hx⟩ := Option.isSome_iff_exists.mp h0
    obtain ⟨p, vs, rfl, _, _⟩ := seq_of s0 r hx
    cases rv
    exact PySem.repr_of_reads' rd h1 (PyData.noDict_hsm (PyData.hasDict_of_canLay _ (shp_lay h2))) hg (by omega) (fun b o e => e) (fun h' u tk hk => ⟨.str _, H, I.kept hk, ⟨_, rfl⟩, k.val s0 rfl rfl⟩) h3
  next => cases ez
end
end Mp
end
section
/-! Mp: enumerate of a tuple; what is walked, list or tuple. -/
namespace Mp
open PySem PySem.Spec
                                                                                                    PyProof.Rows L2

set_option maxHeartbeats
                                                                                                    1000000 in
/-- enumerate(v) of what begins -/
theorem enum_newT {v : Value} {o : Obj} {F : Heap → Prop} (B : Begins v o F) : Meets (Builtin.«enumerate.__new__» ⟨[.type "enumerate", v], []⟩) (fun _ R s => F s.heap ∧
    R (.ok (.ret (.ref (s.heap.push o).objs.size))) { s with heap := (s.heap.push o).push { cls := .type "enumerate", data := .fields #[.none, .bool false, .ref s.heap.objs.size, rawInt 0, .none, .none] } }) :=
  .of_wp fun prog
                                                                                                    w A R s h => by
    obtain ⟨hh, g, d, k, z⟩ := s
    obtain ⟨h1, h⟩ := h
    have sub1 := sub_enumerate
    have begins : ∀ {A' : Around} {E : Value → Shared → Prop} {Q : Value → Shared → Prop}, Q (.ref hh.objs.size) ⟨hh.push o, g, d, k, z⟩ → wpAny (model prog w) A' (pyIter v) Q E ⟨hh, g, d, k, z⟩ := fun q => B.iter prog w _ _ ⟨hh, g, d, k, z⟩ _ h1 q
    wp_walk using begins
    refine wpAny_stack_any
                                                                                                    fun st => wpAny_pure ?_
    split
    · rename_i c _ _ _ _ _
      cases (c == Value.type "enumerate") <;>
      · wp_walk using begins
        exact ⟨_, rfl, h⟩
    · wp_walk using begins
      exact ⟨_, rfl, h⟩
theorem call_enumB {prog : Program} {w : World} {A : Around} {E : Value → Shared → Prop} {s : Shared} {v : Value} {o : Obj} {F : Heap → Prop} {Q : Value → Shared → Prop} (B : Begins v o F) (h1 : F s.heap)
    (h : ∀ h', IsEnum h' (s.heap.objs.size + 1) s.heap.objs.size 0 .none → h'.get? s.heap.objs.size = some o → (∀ b u, s.heap.get? b = some u → h'.get? b = some u) → Q (.ref (s.heap.objs.size + 1)) { s with heap := h' }) :
    wpAny (model prog w) A (call (.type "enumerate") [v]) Q E s := by
  refine callType_new PySem.F.called_enumerate (by decide) (PySem.F.typeCall_enumerate_1 _) (PySem.F.newCall_enumerate_1 _) (fun obj => PySem.F.args_object_init_2 obj _) PySem.F.entry_enumerate_new (enum_newT B) ⟨h1, ?_⟩
  have hz :
                                                                                                    (s.heap.push o).objs.size = s.heap.objs.size + 1 := Heap.size_push ..
  show _ ∧ _
  rw [hz]
  have he : IsEnum ((s.heap.push o).push { cls := .type "enumerate", data := .fields #[.none, .bool false, .ref s.heap.objs.size, rawInt 0, .none, .none] }) (s.heap.objs.size + 1) s.heap.objs.size 0 .none :=
    hz ▸ Heap.get?_push_size (s.heap.push o) (o := { cls := .type "enumerate", data := .fields #[.none, .bool false, .ref s.heap.objs.size, rawInt 0, .none, .none] }) rfl
  exact ⟨⟨_, he, rfl⟩, h _ he (Heap.get?_push_of_some _ (Heap.get?_push_size _ B.free)) fun b u x => Heap.get?_push_of_some _ (Heap.get?_push_of_some _ x)⟩
/-- the tuple at a, each item in a new pair with its number -/
def ItT (K : PySem.W.Frag) (a : Addr) : It where
  go := fun i H => ∃ (xs : List V) (x : V), SqT K H a xs ∧ xs[i]? = some x
  yld := fun i H v H' => ∃ T x, v = .ref T ∧ H T = none ∧ H' = upd H T (.tup [.int (i : Nat), x]) ∧ ∀ xs, SqT K H a xs → xs[i]? = some x
  stop := fun i H => ∃ xs : List V, SqT K H a xs ∧ xs.length = i
theorem turn_enumT {P : Program} {w : World} {K : PySem.W.Frag} {elts : List Expr} {kk : Nat} {tpos : Pos} (a e it : Addr) :
    Turn P w K (.Tuple elts kk tpos) (ItT K a) [e, it] e (fun i h => (∃ old, IsEnum h e it ((i : Nat) : Int) old) ∧ h.IsTupleIter it a i ∧ e ≠ it) where
  mem := List.mem_cons_self
  obj := fun i h st b hb => by
    obtain ⟨⟨old, he⟩, ⟨o, ho, hc, hd⟩, _⟩ :=
                                                                                                    st
    rcases List.mem_cons.mp hb
                                                                                                    with z | z
    · rw [z]
      exact ⟨_, he, fun v q => nomatch q⟩
    · rw
                                                                                                    [List.mem_singleton.mp z]
      exact ⟨o, ho, fun v q => by rw [hd] at q; cases q⟩
  keep := fun i h h' st k => ⟨let ⟨old, he⟩ := st.1; ⟨old, k e (by simp) _ he⟩, st.2.1.at fun o q => k it (by simp) o q, st.2.2⟩
  item := by
    intro X hP hw hK hc i
                                                                                                    pins s σ H E I hf st hg
    subst hP hw hK
    obtain ⟨⟨old, he⟩, hit, hne⟩ :=
                                                                                                    st
    obtain ⟨xs, x, hq, hx⟩ := hg
    obtain ⟨its, rv, p, hz⟩ :=
                                                                                                    I.tuple hq
    obtain ⟨u, hu, ru⟩ :=
                                                                                                    rv.get hx
    have hel : e < s.heap.objs.size :=
                                                                                                    Heap.lt_size he
    have hil : it < s.heap.objs.size := by
      obtain ⟨_, q, _⟩ := hit
      exact Heap.lt_size q
    have hai : a ≠ it :=
                                                                                                    fun z => by
      obtain ⟨o1, q1, c1, _⟩ := p
      obtain ⟨o2, q2, c2, _⟩ := hit
      rw [z, q2] at q1
      cases q1
      rw [c2] at c1
      exact absurd c1 (by decide)
    have hae : e ≠ a := fun z => by
      obtain ⟨o1, q1, c1, _⟩ := p
      rw [← z, he] at q1
      cases q1
      have c2 : Value.type "enumerate" = Value.type "tuple" := c1
      exact absurd c2 (by decide)
    refine wpAny_pyNext_enum_itemD (Draws.tuple (prog := X.prog) (w := X.w) (A := X.A.in1) (I.ok.hd hc) it a hai its.toArray) he ⟨hit, p⟩ (show i < its.toArray.size by simpa using (List.getElem?_eq_some_iff.mp hu).1) hne (by simp [hne, hae]) fun y h' tk hy ho hst hT hsz hk => ?_
    have ey : y = u := by
      have : its.toArray[i]? = some u := by simpa using hu
      rw [this] at hy
      exact (Option.some.inj hy).symm
    rw [ey] at ho hT
    refine ⟨_, rfl, wpAny_letOwnedTupleGo_enum (s := { s with heap := h', toks := tk + 1 }) ho fun h'' he' sb => ?_⟩
    have hT2 : h''.get? s.heap.objs.size = some { cls := .type "tuple", data := .seq #[.int i tk, u] } := (sb.2 _ (Nat.ne_of_gt hel)).trans hT
    have new : ObjOk X.prog X.w
                                                                                                    (upd H s.heap.objs.size (.tup [.int (i : Nat), x])) h'' s.heap.objs.size (.tup [.int (i : Nat), x]) :=
      ⟨by show 2 ≤ sizeLine; decide, [.int i tk, u], .cons ⟨_, rfl⟩ (.cons ru .nil), ⟨_, hT2, rfl, _, rfl⟩⟩
    have I1 : Inv X pins σ (upd H s.heap.objs.size (.tup [.int (i : Nat), x])) { s with heap := h'', toks := tk + 1 } :=
      I.turnedNew
                                                                                                    (ch := [e, it]) (fun b ob hb q => (sb.2 b (fun z => hb (by simp [z]))).trans (hk b ob (fun z => hb (by simp [z])) (fun z => hb (by simp [z])) q)) hf (Nat.le_refl _) new
    refine ⟨.ref s.heap.objs.size, _, I1, rfl, ⟨_, x, rfl, I.hok.fresh (Nat.le_refl _), rfl, fun ys hy => by rw [I.tuple_inj hy hq]; exact hx⟩, ⟨⟨u, ?_⟩, hst.1.at fun o q => (sb.2 it (Ne.symm hne)).trans q, hne⟩, fun b hb => ?_⟩
    · rw [show ((i + 1 : Nat) : Int) = (i : Int) + 1 by omega]
      exact he'
    · have hb' : b < s.heap.objs.size :=
                                                                                                    by
        rcases List.mem_cons.mp hb
                                                                                                    with z | z
        · rw [z]; exact hel
        · rw [List.mem_singleton.mp z]; exact hil
      rw [upd_ne
                                                                                                    (Nat.ne_of_lt hb')]
      exact (hf b hb).1
  done := by
    intro X hP hw hK hc i
                                                                                                    pins s σ H E I hf st hg
    subst hP hw hK
    obtain ⟨⟨old, he⟩, hit, hne⟩ :=
                                                                                                    st
    obtain ⟨xs, hq, hx⟩ := hg
    obtain ⟨its, rv, p, hz⟩ :=
                                                                                                    I.tuple hq
    obtain ⟨f0, f1, f2, f3, f4, f5⟩ := hf it
                                                                                                    (by simp)
    have hai : a ≠ it :=
                                                                                                    fun z => by
      obtain ⟨o1, q1, c1, _⟩ := p
      obtain ⟨o2, q2, c2, _⟩ := hit
      rw [z, q2] at q1
      cases q1
      rw [c2] at c1
      exact absurd c1 (by decide)
    have hl := rv.length
    have D := Draws.tuple (prog := X.prog) (w := X.w) (A := X.A.in1) (I.ok.hd hc) it a hai its.toArray
    have hi : i = its.toArray.size := by
      rw [List.size_toArray]
      omega
    rw [hi] at hit
    exact wpAny_pyNext_enum_endD D he ⟨hit, p⟩ fun h' eb => ⟨rfl, I.turned (t' := s.toks) (fun b o hb q => eb b o hb q) f0 f1 f3 f4 f5⟩
  self :=
                                                                                                    fun A i s Q E st h => let ⟨⟨_, he⟩, _⟩ := st; wpAny_pyIter_enum he h
end Mp
end
section
/-! Mp: what a loop walks, by data. -/
namespace Mp
open PySem PySem.Spec
                                                                                                    PyProof.Rows L2

theorem Reps.getV {W : Wp} {Z : Zp} {F : Hp} : ∀ {ds : List D} {vs : List V} {i : Nat} {v : V}, Reps W Z F ds vs → vs[i]? = some v → ∃ d, ds[i]? = some d ∧ Rep W Z F d v
  | [], vs, i, v, h, g => by
    have e : vs = [] := h
    rw [e] at g
    simp at g
  | d :: ds, vs, 0, v, h, g => by
    obtain ⟨w, r, e, h1, h2⟩ := h
    rw [e] at g
    cases g
    exact ⟨d, rfl, h1⟩
  | d :: ds, vs, i + 1, v, h, g => by
    obtain ⟨w, r, e, h1, h2⟩ := h
    rw [e] at g
    obtain ⟨d', g1, g2⟩ := Reps.getV (i := i) h2 (by simpa using g)
    exact ⟨d', by simpa using g1, g2⟩
/-- while this holds the walk goes on -/
def WG (q : Sit) (H1 H : Hp) : Prop := Le (hid q.B H1) (hid q.B H) ∧ ∀ a ∈ q.B, H a ≠ none
/-- B and new addresses -/
structure Wider (B : List Addr) (H1 : Hp) (B' : List Addr) (H : Hp) : Prop where
  sub : ∀ a ∈ B, a ∈ B'
  new : ∀ a ∈ B', a ∈ B ∨ H1 a = none
  there : ∀ a ∈ B', H a ≠ none
theorem Wider.eq {B B' : List Addr} {H1 H : Hp} (w : Wider B H1 B' H) : hid B' H1 = hid B H1 := by
  funext a
  unfold hid
  by_cases h : a ∈ B
  · rw [if_pos h, if_pos (w.sub a h)]
  · rw [if_neg h]
    by_cases h' : a ∈ B'
    · rw [if_pos h', (w.new a h').resolve_left h]
    · rw [if_neg h']
/-- what a turn gives: data, a new pair at most -/
def WY (W : Wp) (q : Sit) (H1 : Hp) (xs : List D) : Nat → Hp → V → Hp → Prop := fun i H x H' => (H' = H ∨ ∃ p zs, H p = none ∧ H' = upd H p (.tup zs)) ∧ ∃ d, xs[i]? = some d ∧ ∀ B', Wider q.B H1 B' H → Rep W q.Z (hid B' H') d x
abbrev WalkD (W : Wp) (q : Sit) (H1 : Hp) (J : It) (xs : List D) : Prop := Walk J xs.length (WG q H1) (WY W q H1 xs)
/-- more is hidden: lists alone, where ds holds none -/
def Wid (q : Sit) (H1 : Hp) (ds : List D) (B : List Addr) : Prop := (∀ a ∈ q.B, a ∈ B) ∧ ∀ a ∈ B, a ∈ q.B ∨ (mutDs ds = false ∧ ∃ l, H1 a = some (.lst l))
/-- the walk goes on while what B leaves in sight stays -/
def WalkAll (W : Wp) (q : Sit) (H1 : Hp) (J : It) (ds xs : List D) : Prop := ∀ B, Wid q H1 ds B → WalkD W ⟨q.Z, B, q.ρ⟩ H1 J xs
theorem WalkAll.self {W : Wp} {q : Sit} {H1 : Hp} {J : It} {ds xs : List D} (h : WalkAll W q H1 J ds xs) : WalkD W q H1 J xs := h q.B ⟨fun _ h => h, fun _ h => .inl h⟩
def itM (Γ : Gam) (ρ : Env) (k : IK) (ts : List T) : M (List D × List D) := bnd (evs Γ ρ ts) fun ds => bnd (ofO (itD k ds)) fun xs => ret (ds, xs)
theorem itM_bnd {β : Type} {Γ : Gam} {ρ : Env} {k : IK} {ts : List T} {f : List D → M β} : (bnd (itM Γ ρ k ts) fun p => f p.2) = bnd (evs Γ ρ ts) fun ds => bnd (ofO (itD k ds)) f := by
  unfold itM
  rw [bnd_assoc]
  congr 1
  funext ds
  rw [bnd_assoc]
  rfl
theorem itM_fin {β : Type} {W : Wp} {q : Sit} {E : XK} {P : β → Hp → Prop} {st : S} {H : Hp} {Γ : Gam} {ρ : Env} {k : IK} {ts : List T} {f : List D → M β} (h : Fin W q E P (bnd (evs Γ ρ ts) (fun ds => bnd (ofO (itD k ds)) f) st) H) : Fin W q E P (bnd (itM Γ ρ k ts) (fun p => f p.2) st) H := by
  have e := itM_bnd (Γ := Γ) (ρ := ρ) (k := k) (ts := ts) (f := f)
  exact (congrFun e st).symm ▸ h
def iX (W : Wp) (Γ : Gam) (k : IK) (ts : List T) (E : XK) : TI := fun σ H R => ∃ q st, At W q st (varss ts) σ H ∧ Fin W q E (fun p H1 => ∀ J, WalkAll W q H1 J p.1 p.2 → R J H1) (itM Γ q.ρ k ts st) H
theorem wide_rep {W : Wp} {q : Sit} {H1 : Hp} {B : List Addr} {d : D} {v : V} (h : Wid q H1 [d] B) (r : Rep W q.Z (hid q.B H1) d v) : Rep W q.Z (hid B H1) d v := by
  by_cases m : mutDs [d] = false
  · refine Rep.imm (fun a o e n1 n2 n3 => ?_) d v (by simpa [mutDs] using m) r
    obtain ⟨n, e⟩ := hid_some e
    refine hid_of (fun ha => ?_) e
    rcases h.2 a ha with z | ⟨_, l, z⟩
    · exact n z
    · rw [e] at z
      exact n2 l (Option.some.inj z)
  · refine Rep.mono (fun a o e _ => ?_) d v r
    obtain ⟨n, e⟩ := hid_some e
    refine hid_of (fun ha => ?_) e
    rcases h.2 a ha with z | ⟨z, _⟩
    · exact n z
    · exact m z
section
variable {W : Wp} {q : Sit} {st : S} {H1 : Hp} {K : PySem.W.Frag} {a : Addr} {xs : List D} {vs : List V}
theorem WG.le {H : Hp} {B' : List Addr} (g : WG q H1 H) (w : Wider q.B H1 B' H) : Le (hid q.B H1) (hid B' H) := fun a o h nt => by
  have e := g.1 a o h nt
  rw [← w.eq] at h
  exact hid_of (hid_some h).1 (hid_some e).2
theorem wg_get {H : Hp} {o : HO} (g : WG q H1 H) (h : hid q.B H1 a = some o) (n : ∀ ps, o ≠ .tbl ps) : H a = some o := (hid_some (g.1 a o h n)).2
theorem wd_list (r : Reps W q.Z (hid q.B H1) xs vs) (h : hid q.B H1 a = some (.lst vs)) : WalkD W q H1 (Itl K a) xs := by
  rw [WalkD, r.len]
  refine walk_list.mono (fun H g => .of (wg_get g h fun ps z => by cases z)) fun i H x H' hi g y => ⟨.inl y.1, ?_⟩
  obtain ⟨d, e, rd⟩ := r.getV y.2
  exact ⟨d, e, fun B' w => y.1 ▸ Rep.mono (g.le w) _ _ rd⟩
theorem wd_tup (r : Reps W q.Z (hid q.B H1) xs vs) (h : hid q.B H1 a = some (.tup vs)) : WalkD W q H1 (Itt K a) xs := by
  rw [WalkD, r.len]
  refine walk_tup.mono (fun H g => .of (wg_get g h fun ps z => by cases z)) fun i H x H' hi g y => ⟨.inl y.1, ?_⟩
  obtain ⟨d, e, rd⟩ := r.getV y.2
  exact ⟨d, e, fun B' w => y.1 ▸ Rep.mono (g.le w) _ _ rd⟩
theorem rngL_len (a b : Int) : (rngL a b).length = (b - a).toNat := by simp [rngL]
theorem rngL_get {a b : Int} {i : Nat} (h : i < (b - a).toNat) : (rngL a b)[i]? = some (.int (a + i)) := by simp [rngL, h]
theorem wd_rng (a b : Int) : WalkD W q H1 (Itr a (b - a).toNat) (rngL a b) := by
  rw [WalkD, rngL_len]
  exact walk_range.mono (fun _ _ => True.intro) fun i H x H' hi g y => ⟨.inl y.1, .int (a + i), rngL_get hi, fun _ _ => y.2⟩
theorem enmL_len : ∀ (k : Nat) (xs : List D), (enmL k xs).length = xs.length
  | _, [] => rfl
  | k, x :: xs => by rw [enmL, List.length_cons, List.length_cons, enmL_len]
theorem enmL_get : ∀ {k : Nat} {xs : List D} {i : Nat} {d : D}, xs[i]? = some d → (enmL k xs)[i]? = some (.tup [.int ((k + i : Nat) : Int), d])
  | _, [], _, _, h => by simp at h
  | k, x :: xs, 0, d, h => by
    cases h
    rfl
  | k, x :: xs, i + 1, d, h => by
    have := enmL_get (k := k + 1) (i := i) (show xs[i]? = some d by simpa using h)
    rw [show k + 1 + i = k + (i + 1) by omega] at this
    simpa [enmL] using this
theorem wy_pair {H H' : Hp} {i : Nat} {x : V} (g : WG q H1 H) (r : Reps W q.Z (hid q.B H1) xs vs) (h : ∃ p u, x = .ref p ∧ H p = none ∧ H' = upd H p (.tup [.int (i : Nat), u]) ∧ vs[i]? = some u) : WY W q H1 (enmL 0 xs) i H x H' := by
  obtain ⟨p, u, rfl, h1, h2, h3⟩ := h
  obtain ⟨d, e, rd⟩ := r.getV h3
  refine ⟨.inr ⟨p, _, h1, h2⟩, .tup [.int ((0 + i : Nat) : Int), d], enmL_get e, fun B' w => ?_⟩
  have np : p ∉ B' := fun z => w.there p z h1
  have l : Le (hid B' H) (hid B' H') := fun b o hb _ => by
    obtain ⟨n, e⟩ := hid_some hb
    rw [h2]
    exact hid_of n (by rw [upd_ne (ne_of_none e h1)]; exact e)
  rw [Nat.zero_add]
  exact ⟨p, _, rfl, hid_of np (by rw [h2, upd_same]), .cons rfl (.cons (Rep.mono l _ _ (Rep.mono (g.le w) _ _ rd)) rfl)⟩
theorem wd_enmL (r : Reps W q.Z (hid q.B H1) xs vs) (h : hid q.B H1 a = some (.lst vs)) : WalkD W q H1 (Ite K a) (enmL 0 xs) := by
  rw [WalkD, enmL_len, r.len]
  refine walk_enum.mono (fun H g => .of (wg_get g h fun ps z => by cases z)) fun i H x H' hi g y => wy_pair g r ?_
  obtain ⟨p, u, v, e1, e2, e3, e4, e5⟩ := y
  cases e4
  exact ⟨p, v, e1, e2, e3, e5⟩
theorem wd_enmT (r : Reps W q.Z (hid q.B H1) xs vs) (h : hid q.B H1 a = some (.tup vs)) : WalkD W q H1 (ItT K a) (enmL 0 xs) := by
  rw [WalkD, enmL_len, r.len]
  have sq : ∀ {H}, WG q H1 H → SqT K H a vs := fun g => .of (wg_get g h fun ps z => by cases z)
  refine ⟨fun i H hi g => ⟨vs, vs[i], sq g, by simp [hi]⟩, fun H g => ⟨vs, sq g, rfl⟩, fun i H x H' hi g y => wy_pair g r ?_⟩
  obtain ⟨p, u, e1, e2, e3, e4⟩ := y
  exact ⟨p, u, e1, e2, e3, e4 vs (sq g)⟩
end
section
variable {X : Cx} {W : Wp} {Γ : Gam} {E : XK} {a b e : Expr} {A B : T} {pos p : Pos} {es : List Expr} {ts : List T} {tg : Expr}
/-- an iterator that was just made -/
theorem pie_new {pins : List (Addr × Obj)} {σ : L2.St} {H : Hp} {s : Shared} {R : It → Hp → Prop} {o : Obj} {J : It} {tn : Nat → Heap → Prop} (I : Inv X pins σ H s) (T : Turn X.prog X.w X.K tg J [s.heap.objs.size] s.heap.objs.size tn) (h : tn 0 (s.heap.push o)) (q : R J H) :
    PIE X pins σ tg R (.ref s.heap.objs.size) { s with heap := s.heap.push o } :=
  ⟨_, _, tn, J, H, rfl, I.kept (t' := s.toks) fun _ _ e => Heap.get?_push_of_some _ e, T, h, fun b hb => by
    rw [List.mem_singleton.mp hb]
    exact I.fpOk (Nat.le_refl _) (I.hok.fresh (Nat.le_refl _)), q⟩
theorem seq_lst {Z : Zp} {H1 : Hp} {B : List Addr} {xs : List D} {p : Addr} {vs : List V} (r : Rep W Z (hid B H1) (.lst xs) (.ref p)) (h : H1 p = some (.lst vs)) : Reps W Z (hid B H1) xs vs ∧ hid B H1 p = some (.lst vs) := by
  obtain ⟨p2, vs2, e1, e2, r2⟩ := r
  cases e1
  have e3 := (hid_some e2).2
  rw [h] at e3
  cases e3
  exact ⟨r2, e2⟩
theorem seq_tup {Z : Zp} {H1 : Hp} {B : List Addr} {xs : List D} {p : Addr} {vs : List V} (r : Rep W Z (hid B H1) (.tup xs) (.ref p)) (h : H1 p = some (.tup vs)) : Reps W Z (hid B H1) xs vs ∧ hid B H1 p = some (.tup vs) := by
  obtain ⟨p2, vs2, e1, e2, r2⟩ := r
  cases e1
  have e3 := (hid_some e2).2
  rw [h] at e3
  cases e3
  exact ⟨r2, e2⟩
theorem x_val (ha : PE X a (tE W Γ A E)) : PI X tg a (iX W Γ .val [A] E) := by
  refine ⟨fun pins s σ H R I ⟨q, st, h, f⟩ => ?_⟩
  have h' : At W q st (vars A) σ H := h.sub fun i hi => by simp [varss, hi]
  refine thn (ha.run pins s σ H (fun x H1 => ∃ st' d xs, Sit0 W q st' H1 ∧ Rep W q.Z (hid q.B H1) d x ∧ seqL d = some xs ∧ ∀ J, WalkAll W q H1 J [d] xs → R J H1) I ?_) fun v s1 ⟨x, H1, I1, r1, st', d, xs, s0, rd, ex, k⟩ => ?_
  · have f' : Fin W q E (fun p H1 => ∀ J, WalkAll W q H1 J p.1 p.2 → R J H1) (bnd (ev Γ q.ρ A) (fun d => bnd (ofO (seqL d)) fun xs => ret ([d], xs)) st) H := by simpa [itM, evs, itD] using f
    refine one h' f' fun d st1 H2 x a1 g1 r1 f1 => ?_
    obtain ⟨xs, ex, f1⟩ := Fin.ofO f1
    exact ⟨st1, d, xs, a1.s0, r1.rep, ex, f1.ret (.refl _ _) a1.w⟩
  · obtain ⟨p, vs, rfl, rs, ⟨hp, ed⟩ | ⟨hp, ed⟩⟩ := seq_of s0 rd ex
    · cases r1
      obtain ⟨its, rv, pl, hz⟩ := I1.list (.of hp)
      refine wpAny_pyIter_list pl.isList (pie_new I1 (turn_list p _) ⟨_, Heap.get?_push_size _ rfl, rfl, rfl⟩ (k _ fun B w => ?_))
      obtain ⟨rs2, hv⟩ := seq_lst (ed ▸ wide_rep w rd) hp
      exact wd_list (q := ⟨q.Z, B, q.ρ⟩) rs2 hv
    · cases r1
      obtain ⟨its, rv, pl, hz⟩ := I1.tuple (.of hp)
      refine wpAny_pyIter_tuple (show s1.heap.IsTuple p its.toArray from pl) (pie_new I1 (turn_tuple p _) ⟨_, Heap.get?_push_size _ rfl, rfl, rfl⟩ (k _ fun B w => ?_))
      obtain ⟨rs2, hv⟩ := seq_tup (ed ▸ wide_rep w rd) hp
      exact wd_tup (q := ⟨q.Z, B, q.ρ⟩) rs2 hv
theorem smallI_iff {a : Int} (h : smallI a = true) : -(2 ^ 62) ≤ a ∧ a < 2 ^ 62 := by
  unfold smallI at h
  exact of_decide_eq_true h
theorem evs1 {ρ : Env} : evs Γ ρ [A] = bnd (ev Γ ρ A) fun d => ret [d] := by simp [evs]
theorem evs2 {ρ : Env} : evs Γ ρ [A, B] = bnd (ev Γ ρ A) fun d => bnd (ev Γ ρ B) fun e => ret [d, e] := by simp [evs]
section
variable {β : Type} {q : Sit} {st : S} {P : β → Hp → Prop} {H : Hp} {σ : L2.St}
theorem many1 {f : List D → M β} {R : List V → Hp → Prop} (h : At W q st (varss [A]) σ H) (hf : Fin W q E P (bnd (evs Γ q.ρ [A]) f st) H)
    (k : ∀ d st' H' x, At W q st' (varss [A]) σ H' → Grow q.Z H H' → Rep W q.Z (hid q.B H') d x → Fin W q E P (f [d] st') H' → R [x] H') : tA W Γ [A] E σ H R := by
  refine ⟨q, st, h, ?_⟩
  rw [evs1] at hf ⊢
  rw [bnd_assoc] at hf
  have : Fin W q E (fun d H' => ∀ v, Rep W q.Z (hid q.B H') d v → R [v] H') (ev Γ q.ρ A st) H := hf.split fun d st1 _ H1 g1 w1 f1 v rv => k d st1 H1 v (h.grow g1 w1) g1 rv f1
  unfold bnd
  cases e : ev Γ q.ρ A st with
  | ok d s1 =>
    rw [e] at this
    intro H' g w vs rs
    obtain ⟨v, rfl, rv⟩ := reps1 rs
    exact this H' g w v rv
  | exc x s1 =>
    rw [e] at this
    exact this
  | no =>
    rw [e] at this
    exact this
theorem many2 {f : List D → M β} {R : List V → Hp → Prop} (h : At W q st (varss [A, B]) σ H) (hf : Fin W q E P (bnd (evs Γ q.ρ [A, B]) f st) H)
    (k : ∀ d e st' H' x y, At W q st' (varss [A, B]) σ H' → Grow q.Z H H' → Rep W q.Z (hid q.B H') d x → Rep W q.Z (hid q.B H') e y → Fin W q E P (f [d, e] st') H' → R [x, y] H') : tA W Γ [A, B] E σ H R := by
  refine ⟨q, st, h, ?_⟩
  rw [evs2] at hf ⊢
  have ha : (bnd (bnd (ev Γ q.ρ A) fun d => bnd (ev Γ q.ρ B) fun e => ret [d, e]) f) = bnd (ev Γ q.ρ A) fun d => bnd (ev Γ q.ρ B) fun e => f [d, e] := by simp
  rw [ha] at hf
  unfold bnd at hf ⊢
  cases e : ev Γ q.ρ A st with
  | no =>
    rw [e] at hf
    exact hf
  | exc x s1 =>
    rw [e] at hf
    exact hf
  | ok d s1 =>
    rw [e] at hf
    dsimp only at hf ⊢
    cases e2 : ev Γ q.ρ B s1 with
    | no =>
      rw [e2] at hf
      exact hf
    | exc x s2 =>
      rw [e2] at hf
      exact hf
    | ok e' s2 =>
      rw [e2] at hf
      intro H' g w vs rs
      obtain ⟨v, u, rfl, rv, ru⟩ := reps2 rs
      exact k d e' s2 H' v u (h.grow g w) g rv ru (Fin.grow hf g)
end
theorem rng_cases {ds zs : List D} (h : itD .rng ds = some zs) : (∃ j, ds = [.int j] ∧ smallI j = true ∧ zs = rngL 0 j) ∨ ∃ i j, ds = [.int i, .int j] ∧ smallI i = true ∧ smallI j = true ∧ zs = rngL i j := by
  unfold itD at h
  split at h <;> first
    | (rename_i e; cases e; done)
    | (cases h; done)
    | (split at h
       next hj =>
         cases h
         first
           | exact .inl ⟨_, rfl, hj, rfl⟩
           | (simp only [Bool.and_eq_true] at hj; exact .inr ⟨_, _, rfl, hj.1, hj.2, rfl⟩)
       next => cases h)
theorem x_rng1 (hg : Gl X "range") (hm : X.mg "range" = none) (ha : PA X [a] (tA W Γ [A] E)) (hs : starEach [a] X.env = [(false, eval a X.env)]) : PI X tg (.Call (.Name "range" p) [a] [] pos) (iX W Γ .rng [A] E) := by
  refine ⟨fun pins s σ H R I ⟨q, st, h, f⟩ => (pi_range1 hg hm ha hs).run pins s σ H R I (many1 h f fun d st' H' x a' g r f' => ?_)⟩
  obtain ⟨zs, ez, f2⟩ := Fin.ofO f'
  clear f'
  rcases rng_cases ez with ⟨j, e, hj, rfl⟩ | ⟨i, j, e, _⟩
  · cases e
    have := fun B => wd_rng (W := W) (q := ⟨q.Z, B, q.ρ⟩) (H1 := H') 0 j
    simp only [Int.sub_zero] at this
    exact ⟨j, by rw [show x = .int j from r], (smallI_iff hj).1, (smallI_iff hj).2, f2.ret (.refl _ _) a'.w _ fun B _ => this B⟩
  · cases e
theorem x_rng2 (hg : Gl X "range") (hm : X.mg "range" = none) (ha : PA X [a, b] (tA W Γ [A, B] E)) (hs : starEach [a, b] X.env = [(false, eval a X.env), (false, eval b X.env)]) (hs2 : starEach [b] X.env = [(false, eval b X.env)]) : PI X tg (.Call (.Name "range" p) [a, b] [] pos) (iX W Γ .rng [A, B] E) := by
  refine ⟨fun pins s σ H R I ⟨q, st, h, f⟩ => (pi_range2 hg hm ha hs hs2).run pins s σ H R I (many2 h f fun d e st' H' x y a' g r1 r2 f' => ?_)⟩
  obtain ⟨zs, ez, f2⟩ := Fin.ofO f'
  clear f'
  rcases rng_cases ez with ⟨j, e, _⟩ | ⟨i, j, e, h1, h2, rfl⟩
  · cases e
  · cases e
    exact ⟨i, j, by rw [show x = .int i from r1, show y = .int j from r2], ⟨(smallI_iff h1).1, (smallI_iff h1).2, (smallI_iff h2).1, (smallI_iff h2).2⟩, f2.ret (.refl _ _) a'.w _ fun B _ => wd_rng (q := ⟨q.Z, B, q.ρ⟩) i j⟩
theorem x_enm {elts : List Expr} {kk : Nat} {tpos : Pos} (hg : Gl X "enumerate") (hm : X.mg "enumerate" = none) (ha : PA X [a] (tA W Γ [A] E)) (hs : starEach [a] X.env = [(false, eval a X.env)]) :
    PI X (.Tuple elts kk tpos) (.Call (.Name "enumerate" p) [a] [] pos) (iX W Γ .enm [A] E) := by
  refine ⟨fun pins s σ H R I ⟨q, st, h, f⟩ => ?_⟩
  refine Call_ (ld_blt I hg hm boot_enumerate (PyProof.Rows.callWith_type1 (thn (ha.run pos pins s σ H (fun vs H1 => ∃ st' d xs v, vs = [v] ∧ Sit0 W q st' H1 ∧ Rep W q.Z (hid q.B H1) d v ∧ seqL d = some xs ∧ ∀ J, WalkAll W q H1 J [d] (enmL 0 xs) → R J H1) I ?_) fun us s1 ⟨vs, H1, I1, r1, st', d, xs, v, ev, s0, rd, ex, k⟩ => ?_) hs rfl))
  · refine many1 h f fun d st1 H2 v a1 g1 r1 f1 => ?_
    obtain ⟨zs, ez, f1⟩ := Fin.ofO f1
    obtain ⟨xs, ex, rfl⟩ := Option.map_eq_some_iff.mp (show (seqL d).map (enmL 0) = some zs from ez)
    exact ⟨st1, d, xs, v, rfl, a1.s0, r1, ex, f1.ret (.refl _ _) a1.w⟩
  · rw [ev] at r1
    obtain ⟨u, rfl, ru⟩ :=
                                                                                                    vals1 r1
    have fp : ∀ b ∈ [s1.heap.objs.size + 1, s1.heap.objs.size], FpOk X pins H1 b := fun b hb => by
      have hle : s1.heap.objs.size ≤ b :=
                                                                                                    by
        rcases List.mem_cons.mp hb
                                                                                                    with z | z
        · rw [z]; exact
                                                                                                    Nat.le_add_right _ _
        · rw [List.mem_singleton.mp z]; exact Nat.le_refl _
      exact I1.fpOk hle
                                                                                                    (I1.hok.fresh hle)
    obtain ⟨p, ws, rfl, rs, ⟨hp, ed⟩ | ⟨hp, ed⟩⟩ := seq_of s0 rd ex
    · cases ru
      obtain ⟨its, rv, pl, hz⟩ := I1.list (.of hp)
      refine call_enumB (begins_list p its.toArray) pl.isList fun h' he ho hk => wpAny_pyIter_enum he ?_
      exact ⟨_, _, _, _, H1, rfl, I1.kept (t' := s1.toks) hk, turn_enum p (s1.heap.objs.size + 1) s1.heap.objs.size, ⟨⟨.none, he⟩, ⟨_, ho, rfl, rfl⟩, Nat.succ_ne_self _⟩, fp, k _ fun B w => (by
        have z := wide_rep w rd
        rw [ed] at z
        obtain ⟨rs2, hv⟩ := seq_lst z hp
        exact wd_enmL (q := ⟨q.Z, B, q.ρ⟩) rs2 hv)⟩
    · cases ru
      obtain ⟨its, rv, pl, hz⟩ := I1.tuple (.of hp)
      refine call_enumB (begins_tuple p its.toArray) (show s1.heap.IsTuple p its.toArray from pl) fun h' he ho hk => wpAny_pyIter_enum he ?_
      exact ⟨_, _, _, _, H1, rfl, I1.kept (t' := s1.toks) hk, turn_enumT p (s1.heap.objs.size + 1) s1.heap.objs.size, ⟨⟨.none, he⟩, ⟨_, ho, rfl, rfl⟩, Nat.succ_ne_self _⟩, fp, k _ fun B w => (by
        have z := wide_rep w rd
        rw [ed] at z
        obtain ⟨rs2, hv⟩ := seq_tup z hp
        exact wd_enmT (q := ⟨q.Z, B, q.ρ⟩) rs2 hv)⟩

/-! ### a range as a list, a tuple -/
theorem reps_rng {Z : Zp} {F : Hp} (a b : Int) : Reps W Z F (rngL a b) (rgV a b) := by
  unfold rngL rgV
  induction (List.range (b - a).toNat) with
  | nil => exact rfl
  | cons i l ih => exact .cons rfl ih
theorem sizeLine24 : (sizeLine : Nat) = 2 ^ 24 := sizeLine_eq
/-- the range that the arguments tell -/
theorem rng_ok {ds : List D} {zs : List D} (h : itD .rng ds = some zs) (hz : zs.length ≤ sizeLine) : ∃ a b, zs = rngL a b ∧ RgOk a b ∧ (ds = [.int b] ∧ a = 0 ∨ ds = [.int a, .int b]) := by
  rcases rng_cases h with ⟨j, e, hj, rfl⟩ | ⟨i, j, e, h1, h2, rfl⟩
  · have := smallI_iff hj
    rw [rngL_len, sizeLine24] at hz
    exact ⟨0, j, rfl, ⟨by omega, by omega, this.1, this.2, hz⟩, .inl ⟨e, rfl⟩⟩
  · have h1 := smallI_iff h1
    have h2 := smallI_iff h2
    rw [rngL_len, sizeLine24] at hz
    exact ⟨i, j, rfl, ⟨h1.1, h1.2, h2.1, h2.2, hz⟩, .inr e⟩
/-- the reading of a range's arguments, one or two -/
theorem rg1 {q : Sit} {st : S} {σ : L2.St} {H : Hp} {tupl : Bool} {Q : VK} (h : At W q st (varss [A]) σ H) (f : Fin W q E (PD W q H true Q) (ev Γ q.ρ (.rgc tupl [A]) st) H) :
    tRg1 (tE W Γ A E) σ H fun a b H1 => RgOk a b ∧ ∀ p, H1 p = none → Q (.ref p) (upd H1 p (if tupl then .tup (rgV a b) else .lst (rgV a b))) := by
  have f' : Fin W q E (PD W q H true Q) (bnd (ev Γ q.ρ A) (fun d => bnd (ofO (itD .rng [d])) fun xs => if xs.length ≤ sizeLine then ret (if tupl then .tup xs else .lst xs) else no) st) H := by simpa [ev, evs] using f
  refine one (h.sub fun i hi => by simp [varss, hi]) f' fun d st1 H1 x a1 g1 r1 f1 => ?_
  obtain ⟨xs, ex, f1⟩ := Fin.ofO f1
  obtain ⟨hz, f1⟩ := Fin.if_ f1
  obtain ⟨i, j, rfl, ok, ⟨e1, e2⟩ | e1⟩ := rng_ok ex hz
  · cases e1
    subst e2
    refine ⟨j, r1.rep, ok, ?_⟩
    cases tupl with
    | true => exact (Post.of f1 g1).tup a1.s0 (reps_rng 0 j)
    | false => exact (Post.of f1 g1).lst a1.s0 (reps_rng 0 j)
  · cases e1
theorem rg2 {q : Sit} {st : S} {σ : L2.St} {H : Hp} {tupl : Bool} {Q : VK} (h : At W q st (varss [A, B]) σ H) (f : Fin W q E (PD W q H true Q) (ev Γ q.ρ (.rgc tupl [A, B]) st) H) :
    tRg2 (tE W Γ A E) (tE W Γ B E) σ H fun a b H1 => RgOk a b ∧ ∀ p, H1 p = none → Q (.ref p) (upd H1 p (if tupl then .tup (rgV a b) else .lst (rgV a b))) := by
  have f' : Fin W q E (PD W q H true Q) (bnd (ev Γ q.ρ A) (fun d => bnd (ev Γ q.ρ B) fun e => bnd (ofO (itD .rng [d, e])) fun xs => if xs.length ≤ sizeLine then ret (if tupl then .tup xs else .lst xs) else no) st) H := by simpa [ev, evs] using f
  refine two (h.sub fun i hi => by simpa [varss] using hi) f' fun d e st1 H1 x y a1 g1 r1 r2 f1 => ?_
  obtain ⟨xs, ex, f2⟩ := Fin.ofO f1
  obtain ⟨hz, f3⟩ := Fin.if_ f2
  clear f1 f2
  obtain ⟨i, j, rfl, ok, ⟨e1, e2⟩ | e1⟩ := rng_ok ex hz
  · cases e1
  · cases e1
    refine ⟨i, j, r1, r2, ok, ?_⟩
    cases tupl with
    | true => exact (Post.of f3 g1).tup a1.s0 (reps_rng i j)
    | false => exact (Post.of f3 g1).lst a1.s0 (reps_rng i j)
theorem r_rgt1 {p0 pos0 : Pos} (hc : X.calm = true) (ht : Gl X "tuple") (hmt : X.mg "tuple" = none) (hg : Gl X "range") (hm : X.mg "range" = none) (ha : PE X a (tE W Γ A E)) (s1 : starEach [a] X.env = (false, eval a X.env) :: starEach [] X.env)
    (s0 : starEach [.Call (.Name "range" p) [a] [] pos] X.env = (false, eval (.Call (.Name "range" p) [a] [] pos) X.env) :: starEach [] X.env) : PE X (.Call (.Name "tuple" p0) [.Call (.Name "range" p) [a] [] pos] [] pos0) (tE W Γ (.rgc true [A]) E) :=
  (pe_tupRg hc ht hmt (prg_1 hg hm ha s1) s0).imp fun σ H Q ⟨q, st, h, f⟩ => rg1 h f
theorem r_rgl1 {p0 pos0 : Pos} (hc : X.calm = true) (ht : Gl X "list") (hmt : X.mg "list" = none) (hg : Gl X "range") (hm : X.mg "range" = none) (ha : PE X a (tE W Γ A E)) (s1 : starEach [a] X.env = (false, eval a X.env) :: starEach [] X.env)
    (s0 : starEach [.Call (.Name "range" p) [a] [] pos] X.env = (false, eval (.Call (.Name "range" p) [a] [] pos) X.env) :: starEach [] X.env) : PE X (.Call (.Name "list" p0) [.Call (.Name "range" p) [a] [] pos] [] pos0) (tE W Γ (.rgc false [A]) E) :=
  (pe_listRg hc ht hmt (prg_1 hg hm ha s1) s0).imp fun σ H Q ⟨q, st, h, f⟩ => rg1 h f
theorem r_rgt2 {p0 pos0 : Pos} (hc : X.calm = true) (ht : Gl X "tuple") (hmt : X.mg "tuple" = none) (hg : Gl X "range") (hm : X.mg "range" = none) (ha : PE X a (tE W Γ A E)) (hb : PE X b (tE W Γ B E)) (s1 : starEach [a, b] X.env = (false, eval a X.env) :: starEach [b] X.env)
    (s2 : starEach [b] X.env = (false, eval b X.env) :: starEach [] X.env) (s3 : (backTo pos (starEach [b] X.env)).any (·.1) = false) (s0 : starEach [.Call (.Name "range" p) [a, b] [] pos] X.env = (false, eval (.Call (.Name "range" p) [a, b] [] pos) X.env) :: starEach [] X.env) :
    PE X (.Call (.Name "tuple" p0) [.Call (.Name "range" p) [a, b] [] pos] [] pos0) (tE W Γ (.rgc true [A, B]) E) :=
  (pe_tupRg hc ht hmt (prg_2 hg hm ha hb s1 s2 s3) s0).imp fun σ H Q ⟨q, st, h, f⟩ => rg2 h f
theorem r_rgl2 {p0 pos0 : Pos} (hc : X.calm = true) (ht : Gl X "list") (hmt : X.mg "list" = none) (hg : Gl X "range") (hm : X.mg "range" = none) (ha : PE X a (tE W Γ A E)) (hb : PE X b (tE W Γ B E)) (s1 : starEach [a, b] X.env = (false, eval a X.env) :: starEach [b] X.env)
    (s2 : starEach [b] X.env = (false, eval b X.env) :: starEach [] X.env) (s3 : (backTo pos (starEach [b] X.env)).any (·.1) = false) (s0 : starEach [.Call (.Name "range" p) [a, b] [] pos] X.env = (false, eval (.Call (.Name "range" p) [a, b] [] pos) X.env) :: starEach [] X.env) :
    PE X (.Call (.Name "list" p0) [.Call (.Name "range" p) [a, b] [] pos] [] pos0) (tE W Γ (.rgc false [A, B]) E) :=
  (pe_listRg hc ht hmt (prg_2 hg hm ha hb s1 s2 s3) s0).imp fun σ H Q ⟨q, st, h, f⟩ => rg2 h f
end
end Mp
end
section
/-! Mp: targets, list comprehensions, dict comprehensions. -/
namespace Mp
open PySem PySem.Spec
                                                                                                    PyProof.Rows L2

/-! ### targets -/
theorem getE_set_ne {ρ : Env} {i j : Nat} {o : Option Slot} (h : i ≠ j) : getE (ρ.set i o) j = getE ρ j := by
  unfold getE
  rw [List.getElem?_set_ne h]
theorem getE_set {ρ : Env} {i : Nat} {d d' : D} {b : Bool} (h : getE (ρ.set i (some (d, b))) i = some d') : d' = d ∧ i < ρ.length := by
  unfold getE at h
  by_cases hi : i < ρ.length
  · rw [List.getElem?_set_self hi] at h
    cases h
    exact ⟨rfl, hi⟩
  · rw [List.getElem?_eq_none (by simpa using hi)] at h
    cases h
mutual
theorem bindG_len : ∀ {g : G} {d : D} {ρ ρ' : Env}, bindG g d ρ = some ρ' → ρ'.length = ρ.length
  | .nm i, d, ρ, ρ', h => by
    cases h
    simp
  | .tp gs, .tup ds, ρ, ρ', h => bindGs_len (gs := gs) h
  | .tp gs, .non, _, _, h => by cases h
  | .tp gs, .bl _, _, _, h => by cases h
  | .tp gs, .int _, _, _, h => by cases h
  | .tp gs, .str _, _, _, h => by cases h
  | .tp gs, .lst _, _, _, h => by cases h
  | .tp gs, .st, _, _, h => by cases h
  | .tp gs, .gl _, _, _, h => by cases h
  | .tp gs, .dic _ _, _, _, h => by cases h
  | .tp gs, .clo _ _, _, _, h => by cases h
theorem bindGs_len : ∀ {gs : List G} {ds : List D} {ρ ρ' : Env}, bindGs gs ds ρ = some ρ' → ρ'.length = ρ.length
  | [], [], _, _, h => by
    cases h
    rfl
  | g :: gs, d :: ds, ρ, ρ', h => by
    obtain ⟨ρ1, h1, h2⟩ := Option.bind_eq_some_iff.mp (show (bindG g d ρ).bind (fun ρ1 => bindGs gs ds ρ1) = some ρ' from h)
    rw [bindGs_len h2, bindG_len h1]
  | [], _ :: _, _, _, h => by cases h
  | _ :: _, [], _, _, h => by cases h
end
mutual
theorem bindG_out : ∀ {g : G} {d : D} {ρ ρ' : Env} {i : Nat}, bindG g d ρ = some ρ' → i ∉ slotsG g → getE ρ' i = getE ρ i
  | .nm j, d, ρ, ρ', i, h, n => by
    cases h
    exact getE_set_ne fun e => n (by simp [slotsG, e])
  | .tp gs, .tup ds, ρ, ρ', i, h, n => bindGs_out (gs := gs) h n
  | .tp gs, .non, _, _, _, h, _ => by cases h
  | .tp gs, .bl _, _, _, _, h, _ => by cases h
  | .tp gs, .int _, _, _, _, h, _ => by cases h
  | .tp gs, .str _, _, _, _, h, _ => by cases h
  | .tp gs, .lst _, _, _, _, h, _ => by cases h
  | .tp gs, .st, _, _, _, h, _ => by cases h
  | .tp gs, .gl _, _, _, _, h, _ => by cases h
  | .tp gs, .dic _ _, _, _, _, h, _ => by cases h
  | .tp gs, .clo _ _, _, _, _, h, _ => by cases h
theorem bindGs_out : ∀ {gs : List G} {ds : List D} {ρ ρ' : Env} {i : Nat}, bindGs gs ds ρ = some ρ' → i ∉ slotsGs gs → getE ρ' i = getE ρ i
  | [], [], _, _, _, h, _ => by
    cases h
    rfl
  | g :: gs, d :: ds, ρ, ρ', i, h, n => by
    obtain ⟨ρ1, h1, h2⟩ := Option.bind_eq_some_iff.mp (show (bindG g d ρ).bind (fun ρ1 => bindGs gs ds ρ1) = some ρ' from h)
    simp only [slotsGs, List.mem_append, not_or] at n
    rw [bindGs_out h2 n.2, bindG_out h1 n.1]
  | [], _ :: _, _, _, _, h, _ => by cases h
  | _ :: _, [], _, _, _, h, _ => by cases h
end
/-- the slots V are bound: σ' for ρ' -/
structure Bd (W : Wp) (Z : Zp) (F : Hp) (V : List Nat) (ρ' : Env) (σ σ' : L2.St) : Prop where
  len : σ'.length = σ.length
  out : ∀ i, i ∉ V → σ'[i]? = σ[i]?
  see : ∀ i ∈ V, ∀ d, getE ρ' i = some d → ∃ v, σ'[i]? = some (some v) ∧ Rep W Z F d v
def tG (W : Wp) (g : G) : TG := fun v σ H Q => ∃ Z F d ρ ρ', (∀ a vs, F a = some (.tup vs) → H a = some (.tup vs)) ∧ Rep W Z F d v ∧ bindG g d ρ = some ρ' ∧ ρ.length = σ.length ∧ ∀ σ', Bd W Z F (slotsG g) ρ' σ σ' → Q σ' H
def tGs (W : Wp) (gs : List G) : TGs := fun vs σ H Q => ∃ Z F ds ρ ρ', (∀ a vs, F a = some (.tup vs) → H a = some (.tup vs)) ∧ Reps W Z F ds vs ∧ bindGs gs ds ρ = some ρ' ∧ ρ.length = σ.length ∧ ∀ σ', Bd W Z F (slotsGs gs) ρ' σ σ' → Q σ' H
section
variable {X : Cx} {W : Wp} {pos : Pos} {es : List Expr} {e : Expr} {g : G} {gs : List G}
theorem _root_.L2.PG.imp {t t' : TG} (h : PG X e t) (k : ∀ v σ H Q, t' v σ H Q → t v σ H Q) : PG X e t' := ⟨fun pins s σ H v u Q I r q => h.run pins s σ H v u Q I r (k v σ H Q q)⟩
theorem _root_.L2.PGs.imp {t t' : TGs} (h : PGs X es t) (k : ∀ vs σ H Q, t' vs σ H Q → t vs σ H Q) : PGs X es t' := ⟨fun pins s σ H vs us Q I r q => h.run pins s σ H vs us Q I r (k vs σ H Q q)⟩
theorem g_nm {i : Nat} {x : Str} (hN : X.N.Nodup) (hi : X.N[i]? = some x) (hx : Loc X.env.scope x) (hf : X.fn x = true ∨ X.env.scope.names.lookup x = some .local) : PG X (.Name x pos) (tG W (.nm i)) :=
  (pg_name hN hi hx hf).imp fun v σ H Q ⟨Z, F, d, ρ, ρ', h1, r, h2, h3, k⟩ => by
    cases h2
    refine k _ ⟨by simp, fun j hj => List.getElem?_set_ne fun e => hj (by simp [slotsG, e]), fun j hj d' e => ?_⟩
    have ej : j = i := by simpa [slotsG] using hj
    subst ej
    obtain ⟨e1, e2⟩ := getE_set e
    rw [e1]
    exact ⟨v, List.getElem?_set_self (by omega), r⟩
theorem gs_nil : PGs X [] (tGs W []) :=
  pgs_nil.imp fun vs σ H Q ⟨Z, F, ds, ρ, ρ', h1, r, h2, h3, k⟩ => by
    cases ds with
    | nil => exact ⟨r, k σ ⟨rfl, fun _ _ => rfl, fun i hi => absurd hi (by simp [slotsGs])⟩⟩
    | cons d ds => cases h2
theorem gs_cons (h1 : PG X e (tG W g)) (h2 : PGs X es (tGs W gs)) (hs : (assignEach (e :: es) X.env).map (·.2) = assign e X.env :: (assignEach es X.env).map (·.2)) : PGs X (e :: es) (tGs W (g :: gs)) :=
  (pgs_cons h1 h2 hs).imp fun vs σ H Q ⟨Z, F, ds, ρ, ρ', a1, r, a2, a3, k⟩ => by
    cases ds with
    | nil => cases a2
    | cons d ds =>
      obtain ⟨v, us, rfl, r1, r2⟩ := r
      obtain ⟨ρ1, b1, b2⟩ := Option.bind_eq_some_iff.mp (show (bindG g d ρ).bind (fun ρ1 => bindGs gs ds ρ1) = some ρ' from a2)
      refine ⟨v, us, rfl, Z, F, d, ρ, ρ1, a1, r1, b1, a3, fun σ1 q1 => ⟨Z, F, ds, ρ1, ρ', a1, r2, b2, by rw [bindG_len b1, a3, q1.len], fun σ2 q2 => k σ2 ⟨q2.len.trans q1.len, fun i hi => ?_, fun i hi d' e => ?_⟩⟩⟩
      · simp only [slotsGs, List.mem_append, not_or] at hi
        rw [q2.out i hi.2, q1.out i hi.1]
      · by_cases hi2 : i ∈ slotsGs gs
        · exact q2.see i hi2 d' e
        · have hi1 : i ∈ slotsG g := by
            simp only [slotsGs, List.mem_append] at hi
            exact hi.resolve_right hi2
          rw [bindGs_out b2 hi2] at e
          rw [q2.out i hi2]
          exact q1.see i hi1 d' e
theorem bindGs_count : ∀ {gs : List G} {ds : List D} {ρ ρ' : Env}, bindGs gs ds ρ = some ρ' → ds.length = gs.length
  | [], [], _, _, h => rfl
  | g :: gs, d :: ds, ρ, ρ', h => by
    obtain ⟨ρ1, h1, h2⟩ := Option.bind_eq_some_iff.mp (show (bindG g d ρ).bind (fun ρ1 => bindGs gs ds ρ1) = some ρ' from h)
    simp [bindGs_count h2]
  | [], _ :: _, _, _, h => by cases h
  | _ :: _, [], _, _, h => by cases h
theorem g_tp {k : Nat} (hc : X.calm = true) (h : PGs X es (tGs W gs)) (hn : (assignEach es X.env).length = gs.length) (hst : (assignEach es X.env).findIdx? (·.1) = none) : PG X (.Tuple es k pos) (tG W (.tp gs)) :=
  (pg_tup hc h hn hst).imp fun v σ H Q ⟨Z, F, d, ρ, ρ', a1, r, a2, a3, k⟩ => by
    cases d with
    | tup ds =>
      obtain ⟨a, vs, rfl, r1, r2⟩ := r
      exact ⟨a, vs, rfl, .of (a1 a vs r1), by rw [← r2.len, bindGs_count a2], Z, F, ds, ρ, ρ', a1, r2, a2, a3, k⟩
    | _ => cases a2
end
/-! ### no exceptions within -/
section
variable {α β : Type} {W : Wp} {q : Sit} {E E' : XK} {P : β → Hp → Prop} {H : Hp} {st : S}
theorem nox_bnd (m : M α) (f : α → M β) : nox (bnd m f) = bnd (nox m) fun a => nox (f a) := by
  funext s
  simp only [nox, bnd]
  cases m s <;> rfl
theorem nox_nox (m : M α) : nox (nox m) = nox m := by
  funext s
  simp only [nox]
  cases m s <;> rfl
theorem nox_ofO (o : Option α) : nox (ofO o) = ofO o := by cases o <;> rfl
theorem Fin.splitN {m : M α} {f : α → M β} {P' : α → Hp → Prop} (h : Fin W q E P (bnd (nox m) f st) H) (k : ∀ a st1, Fin W q E P (f a st1) H → ∀ H1, Grow q.Z H H1 → Wld W q.Z st1 H1 → Fin W q E P (f a st1) H1 → P' a H1) : Fin W q E' P' (m st) H := by
  unfold bnd nox at h
  cases e : m st with
  | ok a s1 =>
    rw [e] at h
    exact fun H' g w => k a s1 h H' g w (h.grow g)
  | exc x s1 =>
    rw [e] at h
    exact h.elim
  | no =>
    rw [e] at h
    exact h
/-- within, from the heap that it began with -/
theorem Fin.splitB {m : M α} {f : α → M β} {P' : α → Hp → Prop} {H2 : Hp} {B' : List Addr} {ρ' : Env} (h : Fin W q E P (bnd (nox m) f st) H) (g : Grow q.Z H H2) (k : ∀ a st1, Fin W q E P (f a st1) H → ∀ H3, Grow q.Z H2 H3 → Wld W q.Z st1 H3 → P' a H3) : Fin W ⟨q.Z, B', ρ'⟩ E' P' (m st) H2 := by
  unfold bnd nox at h
  cases e : m st with
  | ok a s1 =>
    rw [e] at h
    exact fun H' g w => k a s1 h H' g w
  | exc x s1 =>
    rw [e] at h
    exact h.elim
  | no =>
    rw [e] at h
    exact h
theorem Fin.ifN {c : Prop} [Decidable c] {m : M α} {g : α → M β} (h : Fin W q E P (bnd (nox m) (fun a => if c then g a else no) st) H) : c ∧ Fin W q E P (bnd (nox m) g st) H := by
  by_cases hc : c
  · simp only [if_pos hc] at h
    exact ⟨hc, h⟩
  · simp only [if_neg hc] at h
    unfold bnd nox at h
    cases e : m st with
    | ok a s1 => rw [e] at h; exact h.elim
    | exc x s1 => rw [e] at h; exact h.elim
    | no => rw [e] at h; exact h.elim
end
theorem wipe_get (σ : L2.St) (i : Nat) : ∀ vs : List Nat, (wipe σ vs)[i]? = if i ∈ vs ∧ i < σ.length then some none else σ[i]?
  | [] => by simp [wipe]
  | v :: vs => by
    unfold wipe
    by_cases h : v = i
    · subst h
      by_cases hl : v < σ.length
      · rw [List.getElem?_set_self (by rw [wipe_length]; exact hl)]
        simp [hl]
      · rw [List.getElem?_eq_none (by simp [wipe_length]; omega), List.getElem?_eq_none (by omega), if_neg (fun z => hl z.2)]
    · rw [List.getElem?_set_ne h, wipe_get σ i vs]
      have hm : i ∈ v :: vs ↔ i ∈ vs := ⟨fun z => (List.mem_cons.mp z).resolve_left fun e => h e.symm, fun z => List.mem_cons_of_mem _ z⟩
      by_cases c : i ∈ vs ∧ i < σ.length
      · rw [if_pos c, if_pos ⟨hm.mpr c.1, c.2⟩]
      · rw [if_neg c, if_neg fun z => c ⟨hm.mp z.1, z.2⟩]
theorem wipe_of {σ σ2 : L2.St} {vs : List Nat} (hl : σ2.length = σ.length) (h : ∀ i, i ∉ vs → σ2[i]? = σ[i]?) : wipe σ2 vs = wipe σ vs := by
  refine List.ext_getElem? fun i => ?_
  rw [wipe_get, wipe_get, hl]
  by_cases c : i ∈ vs ∧ i < σ.length
  · rw [if_pos c, if_pos c]
  · rw [if_neg c, if_neg c]
    by_cases hv : i ∈ vs
    · have : ¬ i < σ.length := fun z => c ⟨hv, z⟩
      rw [List.getElem?_eq_none (by omega), List.getElem?_eq_none (by omega)]
    · exact h i hv
theorem wipe_wipe (σ : L2.St) (vs : List Nat) : wipe (wipe σ vs) vs = wipe σ vs := wipe_of (wipe_length _ _) fun i hi => by
  rw [wipe_get, if_neg fun z => hi z.1]

/-! ### list comprehensions -/
abbrev E0 : XK :=
                                                                                                    fun _ _ _ => False
def tTo (W : Wp) (Γ : Gam) (t : Option T) (E : XK) : TT := fun σ H Q => ∃ q st, At W q st (varso t) σ H ∧ Fin W q E Q (tsto Γ q.ρ t st) H
section
variable {X : Cx} {W : Wp} {Γ : Gam} {E : XK} {e : Expr} {A : T}
theorem ts_nil : PTs X [] (tTo W Γ none E) := ⟨fun pins s σ H Q I ⟨q, st, h, f⟩ => pts_nil.run pins s σ H Q I (f.ret (.refl _ _) h.w)⟩
theorem ts_one (h : PT X e (tT W Γ A E)) : PTs X [e] (tTo W Γ (some A) E) := ⟨fun pins s σ H Q I q => (pts_one h).run pins s σ H Q I q⟩
end
/-- within a block: the situation behind the target's store, the new object at D hidden -/
theorem at_in {W : Wp} {q : Sit} {st st' : S} {us vs own : List Nat} {σ σ2 : L2.St} {H1 H' : Hp} {Dn : Addr} {d : D} {g : G} {ρ' : Env} (h : At W q st us σ H1) (gr : Grow q.Z H1 H') (w : Wld W q.Z st' H') (hD : H1 Dn = none)
    (mu : (∃ xs, H' Dn = some (.lst xs)) ∨ ∃ kvs, H' Dn = some (.dK kvs)) (hb : bindG g d q.ρ = some ρ') (ho : own = slotsG g) (b : Bd W q.Z (hid (Dn :: q.B) H') (slotsG g) ρ' (wipe σ own) σ2) (hv : ∀ i ∈ vs, i ∈ slotsG g ∨ i ∈ us) :
    At W ⟨q.Z, Dn :: q.B, ρ'⟩ st' vs σ2 H' := by
  refine ⟨List.mem_cons_of_mem _ h.sS, List.mem_cons_of_mem _ h.sL, w, fun a ha => ?_, ?_, fun i hi d' e => ?_⟩
  · rcases List.mem_cons.mp ha with z | z
    · rw [z]; exact mu
    · exact mu_grow (h.hB a z) gr w
  · show ρ'.length = σ2.length
    rw [bindG_len hb, h.len, b.len, wipe_length]
  · by_cases hg : i ∈ slotsG g
    · exact b.see i hg d' e
    · have e' : getE q.ρ i = some d' := by
        rw [← bindG_out hb hg]
        exact e
      obtain ⟨v, h1, h2⟩ := h.see i ((hv i hi).resolve_left hg) d' e'
      refine ⟨v, ?_, Rep.mono (fun a o ha nt => ?_) _ _ h2⟩
      · rw [b.out i hg, wipe_get, if_neg (fun z => hg (ho ▸ z.1)), h1]
      · obtain ⟨n, eo⟩ := hid_some ha
        have na : a ≠ Dn := ne_of_none eo hD
        exact hid_of (by simp [na, n]) (gr.keep a o eo (fun z => n (z ▸ h.sS)) (fun z => n (z ▸ h.sL)) nt)
theorem wld_wy {W : Wp} {q : Sit} {xs : List D} {i : Nat} {H1 H H' : Hp} {x : V} {st : S} (y : WY W q H1 xs i H x H') (w : Wld W q.Z st H) : Grow q.Z H H' ∧ Wld W q.Z st H' := by
  rcases y.1 with e | ⟨p, zs, hp, e⟩
  · rw [e]; exact ⟨.refl _ _, w⟩
  · rw [e]; exact ⟨.new hp, w.new hp⟩
/-- the turns left -/
structure LcAt (W : Wp) (q : Sit) (E : XK) (Q : VK) (H0 : Hp) (Fm : D → M (Option D)) (xs : List D) (H1 : Hp) (Dn : Addr) (i : Nat) (H : Hp) : Prop where
  go : ∃ st ys acc, Grow q.Z H1 H ∧ Wld W q.Z st H ∧ H Dn = some (.lst acc) ∧ Reps W q.Z (hid (Dn :: q.B) H) ys acc ∧ ys.length ≤ i ∧
    Fin W q E (PD W q H0 true Q) (bnd (nox (colM Fm (xs.drop i))) (fun zs => ret (.lst (ys ++ zs))) st) H1
theorem le_skip {B : List Addr} {H : Hp} (p : Addr) : Le (hid (p :: B) H) (hid B H) := fun a o h _ => by
  obtain ⟨n, e⟩ := hid_some h
  exact hid_of (fun z => n (List.mem_cons_of_mem _ z)) e
/-- a hidden object is changed -/
theorem le_put {B : List Addr} {H : Hp} {p : Addr} {o : HO} (hp : p ∈ B) : Le (hid B H) (hid B (upd H p o)) := fun a u h _ => by
  obtain ⟨n, e⟩ := hid_some h
  exact hid_of n (by rw [upd_ne (show a ≠ p from fun z => n (z ▸ hp))]; exact e)
/-- a list, a dict -/
def Mu (H : Hp) (p : Addr) : Prop := (∃ xs, H p = some (.lst xs)) ∨ ∃ kvs, H p = some (.dK kvs)
theorem tabs_put {T : List (Addr × Str)} {H : Hp} {p : Addr} {o : HO} (t : LamX.Tabs T H) (m : Mu H p) : LamX.Tabs T (upd H p o) := fun x hx => by
  obtain ⟨ps, h1, h2, h3⟩ := t x hx
  have ne : ∀ {a : Addr} {u : HO}, H a = some u → (∀ xs, u ≠ .lst xs) → (∀ xs, u ≠ .dK xs) → upd H p o a = some u := fun {a u} e n1 n2 => by
    rw [upd_ne fun z => ?_]
    · exact e
    · rw [z] at e
      rcases m with ⟨xs, e'⟩ | ⟨xs, e'⟩
      · exact n1 xs (Option.some.inj (e.symm.trans e'))
      · exact n2 xs (Option.some.inj (e.symm.trans e'))
  refine ⟨ps, ne h1 (fun xs z => by cases z) (fun xs z => by cases z), h2, fun pos cv hc => ?_⟩
  obtain ⟨c, e1, e2⟩ :=
                                                                                                    h3 pos cv hc
  exact ⟨c, e1, ne e2 (fun xs z => by unfold LamX.CodeO at z; cases z) (fun xs z => by unfold LamX.CodeO at z; cases z)⟩
theorem wld_put {W : Wp} {Z : Zp} {st : S} {H : Hp} {p : Addr} {o : HO} (w : Wld W Z st H) (h1 : p ≠ Z.aS) (h2 : p ≠ Z.aC) (h3 : p ≠ Z.aL) (m : Mu H p) : Wld W Z st (upd H p o) :=
  ⟨by rw [upd_ne (Ne.symm h1)]; exact w.s, by rw [upd_ne (Ne.symm h2)]; exact w.c, by rw [upd_ne (Ne.symm h3)]; exact w.l, w.len, w.pos, w.few, w.at0, fun P hP => by
    obtain ⟨ps, e1, e2⟩ := w.t P hP
    refine ⟨ps, ?_, e2⟩
    rw [upd_ne fun z => ?_]
    · exact e1
    · rw [z] at e1
      rcases m with ⟨xs, e'⟩ | ⟨xs, e'⟩ <;> (rw [e1] at e'; cases e'), tabs_put w.lt m⟩
theorem wld_new {W : Wp} {Z : Zp} {st st' : S} {H1 H : Hp} {p : Addr} {o : HO} (w1 : Wld W Z st' H1) (hp : H1 p = none) (w : Wld W Z st H) (m : Mu H p) : Wld W Z st (upd H p o) :=
  wld_put w (fun z => by have := w1.s; rw [← z, hp] at this; cases this) (fun z => by have := w1.c; rw [← z, hp] at this; cases this) (fun z => by have := w1.l; rw [← z, hp] at this; cases this) m
theorem grow_put {Z : Zp} {H1 H : Hp} {p : Addr} {o : HO} (g : Grow Z H1 H) (hp : H1 p = none) : Grow Z H1 (upd H p o) :=
  ⟨fun a u e h1 h2 h3 => by rw [upd_ne (ne_of_none e hp)]; exact g.keep a u e h1 h2 h3, fun a e z => by
    by_cases q : a = p
    · rw [q, upd_same] at z
      cases z
    · rw [upd_ne q] at z
      exact g.there a e z⟩
/-- the element's computation -/
def lcF (Γ : Gam) (g : G) (ρ : Env) (ifs : Option T) (elt : T) (d : D) : M (Option D) := bnd (ofO (bindG g d ρ)) fun ρ' =>
  bnd (tsto Γ ρ' ifs) fun c => if c then bnd (ev Γ ρ' elt) fun y => ret (some y) else ret none
section
variable {X : Cx} {W : Wp} {Γ : Gam} {E : XK} {elt tg iter : Expr} {ifs : List Expr} {scope : Scope} {own : List (Str × Nat)} {pos : Pos} {g : G} {k : IK} {its : List T} {ci : Option T} {ce : T}
theorem lc_turns {q : Sit} {st : S} {σ : L2.St} {H : Hp} {Q : VK} (ho : own.map (·.2) = slotsG g) (h : At W q st (vars (.lc g k its ci ce)) σ H) (f : Fin W q E (PD W q H true Q) (ev Γ q.ρ (.lc g k its ci ce) st) H) :
    tLc (iX W Γ k its E) (tG W g) (tTo W Γ ci E0) (tE W Γ ce E0) (own.map (·.2)) σ H Q := by
  have hl : At W q st (varss its) σ H := h.sub fun i hi => by simp [vars, hi]
  have f : Fin W q E (PD W q H true Q) (bnd (itM Γ q.ρ k its) (fun p => (fun xs => bnd (nox (colM (lcF Γ g q.ρ ci ce) xs)) fun ys => if xs.length ≤ sizeLine then ret (.lst ys) else no) p.2) st) H :=
    itM_fin (f := fun xs => bnd (nox (colM (lcF Γ g q.ρ ci ce) xs)) fun ys => if xs.length ≤ sizeLine then ret (D.lst ys) else no) f
  refine ⟨q, st, hl, f.split fun px st1 _ H1 g1 w1 f1 J wa Dn hD => ?_⟩
  have wd := wa.self
  obtain ⟨dsx, xs⟩ := px
  dsimp only at wd f1
  obtain ⟨hz, f1⟩ := f1.ifN
  have h1 := h.grow g1 w1
  have nB : Dn ∉ q.B := h1.s0.no hD
  refine lc_it wd (fun i H' => LcAt W q E Q H (lcF Γ g q.ρ ci ce) xs H1 Dn i H') ⟨st1, [], [], .new hD, w1.new hD, by rw [upd_same], rfl, Nat.le_refl _, ?_⟩ (fun i H' hi p => ?_) (fun i x H2 H3 hi p y => ?_) fun H2 p => ?_
  · simp only [List.drop_zero, List.nil_append]
    exact f1
  · obtain ⟨st2, ys, acc, gr, w2, _⟩ := p.go
    exact ⟨gr.le h.sS h.sL, fun a ha z => gr.there a (by rcases h1.hB a ha with ⟨_, e⟩ | ⟨_, e⟩ <;> (rw [e]; simp)) z⟩
  · obtain ⟨st2, ys, acc, gr, w2, e2, r2, l2, f2⟩ := p.go
    obtain ⟨g3, w3⟩ := wld_wy y w2
    obtain ⟨d, ed, rd⟩ := y.2
    have hx : xs.drop i = d :: xs.drop (i + 1) := by
      obtain ⟨hi', e⟩ := List.getElem?_eq_some_iff.mp ed
      rw [← e]
      exact List.drop_eq_getElem_cons hi'
    have g13 := gr.trans g3
    rw [hx, colM, nox_bnd, bnd_assoc, lcF, nox_bnd, bnd_assoc, nox_ofO] at f2
    obtain ⟨ρ', hb, f2⟩ := f2.ofO
    have keep : ∀ {Ha Hb : Hp}, Grow q.Z Ha Hb → Ha Dn = some (.lst acc) → Hb Dn = some (.lst acc) := fun g e => g.keep _ _ e (fun z => nB (z ▸ h.sS)) (fun z => nB (z ▸ h.sL)) fun ps z => by cases z
    have e3 := keep g3 e2
    have rD : Rep W q.Z (hid (Dn :: q.B) H3) d x := rd _ ⟨fun a ha => List.mem_cons_of_mem _ ha, fun a ha => (List.mem_cons.mp ha).elim (fun z => .inr (z ▸ hD)) .inl, fun a ha z => by
      rcases List.mem_cons.mp ha with e | e
      · rw [e, e2] at z
        cases z
      · rcases h1.hB a e with ⟨_, e'⟩ | ⟨_, e'⟩ <;> exact gr.there a (by rw [e']; simp) z⟩
    refine ⟨q.Z, hid (Dn :: q.B) H3, d, q.ρ, ρ', fun a vs e => (hid_some e).2, rD, hb, by rw [wipe_length]; exact h.len, fun σ2 b => ⟨?_, ?_⟩⟩
    · rw [wipe_of (σ2 := σ2) (σ := wipe σ (own.map (·.2))) b.len fun j hj => b.out j (ho ▸ hj), wipe_wipe]
    have ain := fun (vs : List Nat) (hv : ∀ i ∈ vs, i ∈ slotsG g ∨ i ∈ vars (.lc g k its ci ce)) => at_in (st' := st2) h1 g13 w3 hD (.inl ⟨_, e3⟩) hb ho b hv
    rw [nox_bnd, bnd_assoc] at f2
    refine ⟨⟨q.Z, Dn :: q.B, ρ'⟩, st2, ain _ fun i hi => ?_, f2.splitB g13 fun c st4 f4 H4 g4 w4 => ?_⟩
    · by_cases hg : i ∈ slotsG g
      · exact .inl hg
      · exact .inr (by simp [vars, hi, hg])
    cases c with
    | false =>
      rw [if_neg (by decide)] at f4 ⊢
      exact ⟨st4, ys, acc, g13.trans g4, w4, keep g4 e3, Reps.mono ((g3.trans g4).le (List.mem_cons_of_mem _ h.sS) (List.mem_cons_of_mem _ h.sL)) _ _ r2, by omega, by simpa [nox_bnd] using f4⟩
    | true =>
      rw [if_pos rfl] at f4 ⊢
      rw [nox_bnd, bnd_assoc] at f4
      refine ⟨⟨q.Z, Dn :: q.B, ρ'⟩, st4, (ain _ fun i hi => ?_).grow g4 w4, f4.splitB (g13.trans g4) fun dy st5 f5 H5 g5 w5 v rv => ?_⟩
      · by_cases hg : i ∈ slotsG g
        · exact .inl hg
        · exact .inr (by simp [vars, hi, hg])
      have e5 := keep (g4.trans g5) e3
      have r5 : Reps W q.Z (hid (Dn :: q.B) H5) ys acc := Reps.mono (((g3.trans g4).trans g5).le (List.mem_cons_of_mem _ h.sS) (List.mem_cons_of_mem _ h.sL)) _ _ r2
      have la := r2.len
      exact ⟨acc, e5, by omega, st5, ys ++ [dy], acc ++ [v], grow_put ((g13.trans g4).trans g5) hD, wld_new h1.w hD w5 (.inl ⟨_, e5⟩), by rw [upd_same], Reps.mono (le_put List.mem_cons_self) _ _ (r5.app (.cons rv.rep rfl)), by simp; omega, by simpa [nox_bnd] using f5⟩
  · obtain ⟨st2, ys, acc, gr, w2, e2, r2, l2, f2⟩ := p.go
    rw [List.drop_length, colM] at f2
    have f2 : Fin W q E (PD W q H true Q) (ret (.lst (ys ++ [])) st2) H1 := f2
    rw [List.append_nil] at f2
    have r3 : Reps W q.Z (hid q.B H2) ys acc := Reps.mono (le_skip Dn) _ _ r2
    refine f2.ret gr w2 _ ⟨⟨Dn, acc, rfl, hid_of nB e2, r3⟩, fun _ ds e => ?_⟩
    cases e
    exact ⟨Dn, acc, rfl, g1.none hD, e2, r2⟩
theorem r_lc (hc : X.calm = true) (hN : X.N.Nodup) (hi : PI X tg iter (iX W Γ k its E)) (ok : BlkOk X.N X.env.scope scope own) (ho : own.map (·.2) = slotsG g)
    (hg : ∀ (s : Shared) (H : Hp) (C : Addr) (cl : List (Str × Addr)) (fp : List Addr), PG (X.blk s H scope (compEnvC scope cl C X.env) fp) tg (tG W g))
    (ht : ∀ (s : Shared) (H : Hp) (C : Addr) (cl : List (Str × Addr)) (fp : List Addr), PTs (X.blk s H scope (compEnvC scope cl C X.env) fp) ifs (tTo W Γ ci E0))
    (he : ∀ (s : Shared) (H : Hp) (C : Addr) (cl : List (Str × Addr)) (fp : List Addr), PE (X.blk s H scope (compEnvC scope cl C X.env) fp) elt (tE W Γ ce E0)) (hs : ∀ x, foldedSetIterable iter X.env x = pure x) :
    PE X (.ListComp elt [⟨tg, iter, ifs, 0⟩] scope pos) (tE W Γ (.lc g k its ci ce) E) :=
  (pe_lc hc hN hi ok hg ht he hs).imp fun σ H Q ⟨q, st, h, f⟩ => lc_turns ho h f
end
end Mp
end
section
/-! Mp: calls of defs. -/
namespace Mp
open PySem PySem.Spec
                                                                                                    PyProof.Rows L2

/-- room, and no repr around -/
structure RoomG (k : Nat) (A : Around) : Prop where
  r : Room k A
  g : A.guards = some []
theorem RoomG.mono {j k : Nat} {A : Around} (r : RoomG k A) (h : j ≤ k) : RoomG j A := ⟨r.r.mono h, r.g⟩
theorem RoomG.deeper {k : Nat} {A : Around} (r : RoomG (k + 1) A) (env : PySem.Env) : RoomG k (A.deeper env) := ⟨r.r.deeper env, r.g⟩
theorem RoomG.in1 {k : Nat} {A : Around} (r : RoomG (k + 1) A) : RoomG k A.in1 := ⟨r.r.in1, r.g⟩
/-- a def keeps its promise where no repr is around -/
structure FnG (P : Program) (w : PySem.World) (K : PySem.W.Frag) (mg : Str → Option Value) (base : Heap) (CX : CXT) (k : Nat) (f : Addr) (fd : FuncData) (ps : List Str) (sp : Sp) : Prop where
  len : ∀ vs H Q E, sp vs H Q
                                                                                                    E → vs.length = ps.length
  run : ∀ (A : Around) (outer : List PySem.Env) (s : Shared) (H : Hp) (args : Args) (us : List Value) (vs : List V) (Q : VK) (E : XK), RoomG k A → Env0 P w K mg base A outer s H → BindsTo s fd args (ps.zip us) → Vals vs us → sp vs H Q E →
    codeAny (model P w) A
                                                                                                    (.call (.ref f) args) (CR CX outer P w H s Q E) s
theorem FnG.mono {P : Program} {w : PySem.World} {K : PySem.W.Frag} {mg : Str → Option Value} {base : Heap} {CX : CXT} {j k : Nat} {f : Addr} {fd : FuncData} {ps : List Str} {sp : Sp} (F : FnG P w K mg base CX j f fd ps sp) (h : j ≤ k) : FnG P w K mg base CX k f fd ps sp :=
  ⟨F.len, fun A outer s H args us vs Q E hr => F.run A outer s H args us vs Q E (hr.mono h)⟩
/-- how a call's values come to the parameters -/
structure BindP (K : PySem.W.Frag) (fd : FuncData) (ps : List Str) (n : Nat) (ks : List Str) (perm : List Nat) : Prop where
  to : ∀ (s : Shared) (us ws as : List Value), K.In s.heap → us.length = n → ws.length = ks.length → permL perm (us ++ ws) = some as → BindsTo s fd ⟨us, ks.zip ws⟩ (ps.zip as)
theorem pick_vals {vs : List V} {us : List Value} (r : Vals vs us) : ∀ {perm : List Nat} {as : List V}, pickL perm vs = some as → ∃ bs, pickL perm us = some bs ∧ Vals as bs
  | [], as, h => by
    cases h
    exact ⟨[], rfl, .nil⟩
  | i :: p, as, h => by
    obtain ⟨v, e1, h⟩ := Option.bind_eq_some_iff.mp (show vs[i]?.bind (fun d => (pickL p vs).map (d :: ·)) = some as from h)
    obtain ⟨bs, e2, rfl⟩ := Option.map_eq_some_iff.mp h
    obtain ⟨u, g1, g2⟩ := r.get e1
    obtain ⟨cs, g3, g4⟩ := pick_vals r e2
    exact ⟨u :: cs, by rw [pickL, g1, g3] <;> rfl, .cons g2 g4⟩
theorem perm_vals {vs : List V} {us : List Value} (r : Vals vs us) {perm : List Nat} {as : List V} (h : permL perm vs = some as) : ∃ bs, permL perm us = some bs ∧ Vals as bs := by
  cases perm with
  | nil =>
    cases h
    exact ⟨us, rfl, r⟩
  | cons i p => exact pick_vals r h
theorem pick_reps {W : Wp} {Z : Zp} {F : Hp} {ds : List D} {vs : List V} (r : Reps W Z F ds vs) : ∀ {perm : List Nat} {as : List D}, pickL perm ds = some as → ∃ bs, pickL perm vs = some bs ∧ Reps W Z F as bs
  | [], as, h => by
    cases h
    exact ⟨[], rfl, rfl⟩
  | i :: p, as, h => by
    obtain ⟨v, e1, h⟩ := Option.bind_eq_some_iff.mp (show ds[i]?.bind (fun d => (pickL p ds).map (d :: ·)) = some as from h)
    obtain ⟨bs, e2, rfl⟩ := Option.map_eq_some_iff.mp h
    obtain ⟨u, g1, g2⟩ := r.get e1
    obtain ⟨cs, g3, g4⟩ := pick_reps r e2
    exact ⟨u :: cs, by rw [pickL, g1, g3] <;> rfl, .cons g2 g4⟩
theorem perm_reps {W : Wp} {Z : Zp} {F : Hp} {ds : List D} {vs : List V} (r : Reps W Z F ds vs) {perm : List Nat} {as : List D} (h : permL perm ds = some as) : ∃ bs, permL perm vs = some bs ∧ Reps W Z F as bs := by
  cases perm with
  | nil =>
    cases h
    exact ⟨vs, rfl, r⟩
  | cons i p => exact pick_reps r h
/-- the promise of a def that the table tells -/
def spD (W : Wp) (Γ : Gam) (x : Str) (ar : Nat) : Sp := fun vs H Q E => vs.length = ar ∧ ∃ q st ds, Sit0 W q st H ∧ Reps W q.Z (hid q.B H) ds vs ∧ Fin W q E (fun d H' => ∀ v, Rep W q.Z (hid q.B H') d v → Q v H') (Γ x ds st) H
/-- a def of the module that keeps its promise: pats the ways it is called -/
structure DefOk (P : Program) (w : PySem.World) (K : PySem.W.Frag) (mg : Str → Option Value) (base : Heap) (CX : CXT) (k : Nat) (W : Wp) (Γ : Gam) (x : Str) (pats : List (Nat × List Str × List Nat)) : Prop where
  ex : ∃ f fd ps, mg x = some (.ref f) ∧ PySem.W.keepIn K (.ref f) = true ∧ FnG P w K mg base CX k f fd ps (spD W Γ x ps.length) ∧ ∀ p ∈ pats, BindP K fd ps p.1 p.2.1 p.2.2 ∧ ∀ vs : List V, vs.length = p.1 + p.2.1.length → ∀ as, permL p.2.2 vs = some as → as.length = ps.length
section
variable {X : Cx} {CX : CXT} {k : Nat} {W : Wp} {Γ : Gam} {f : Addr} {fd : FuncData} {x : Str} {ps ks : List Str} {sp : Sp} {E : XK} {pats : List (Nat × List Str × List Nat)}
/-- the callee runs -/
theorem run_g {pins : List (Addr × Obj)} {σ : L2.St} {H : Hp} {s : Shared} {Q : VK} {us ws : List Value} {vs zs as : List V} {n : Nat} {perm : List Nat} (F : FnG X.prog X.w X.K X.mg X.base CX k f fd ps sp) (hr : RoomG k X.A) (hb : BindP X.K fd ps n ks perm) (hx : Passes CX X E)
    (I : Inv X pins σ H s) (r : Vals vs us) (rz : Vals zs ws) (hn : us.length = n) (hk : ws.length = ks.length) (hp : permL perm (vs ++ zs) = some as) (h : sp as H Q E) : wpAny (model X.prog X.w) X.A (call (.ref f) us (ks.zip ws)) (EP X pins σ Q) X.xe s := by
  obtain ⟨bs, e, rb⟩ := perm_vals (r.append rz) hp
  refine wpAny_call (codeAny_mono (F.run X.A X.stack s H ⟨us, ks.zip ws⟩ bs as Q E hr I.env0 (hb.to s us ws bs I.kIn hn hk e) rb h) fun res s' hq => ?_)
  cases res with
  | error e => exact hx
                                                                                                    pins σ H s e s' I hq
  | ok fl =>
    cases fl with
    | ret u => exact I.after hq
    | next => exact False.elim hq
    | brk => exact False.elim hq
    | cont => exact False.elim hq
theorem evs_app {ρ : Env} : ∀ (as bs : List T), evs Γ ρ (as ++ bs) = bnd (evs Γ ρ as) fun ds => bnd (evs Γ ρ bs) fun es => ret (ds ++ es)
  | [], bs => by
    simp [evs]
    funext s
    unfold bnd
    cases evs Γ ρ bs s <;> rfl
  | a :: as, bs => by simp [evs, evs_app as bs]
theorem evs_len {ρ : Env} : ∀ (ts : List T) (st st' : S) (ds : List D), evs Γ ρ ts st = .ok ds st' → ds.length = ts.length
  | [], st, st', ds, h => by
    simp only [evs, ret] at h
    cases h
    rfl
  | t :: ts, st, st', ds, h => by
    simp only [evs, bnd] at h
    split at h <;> try (cases h; done)
    rename_i d s1 e1
    split at h <;> try (cases h; done)
    rename_i ds' s2 e2
    simp only [ret] at h
    cases h
    simp [evs_len ts _ _ _ e2]
theorem varss_app : ∀ as bs : List T, varss (as ++ bs) = varss as ++ varss bs
  | [], bs => by simp [varss]
  | a :: as, bs => by simp [varss, varss_app as bs]
section
variable {kws : List Keyword} {e : Expr} {es : List Expr} {A : T} {ts ts1 ts2 : List T} {nm : Option Str} {kpos pos p : Pos}
theorem k_nil : PK X [] (tA W Γ [] E) := ⟨fun pos pins s σ H Q I ⟨q, st, h, f⟩ => pk_nil.run pos pins s σ H Q I (f.ret (.refl _ _) h.w [] rfl)⟩
theorem k_cons (ha : PE X e (tE W Γ A E)) (hr : PK X kws (tA W Γ ts E)) : PK X (⟨nm, e, kpos⟩ :: kws) (tA W Γ (A :: ts) E) :=
  ⟨fun pos pins s σ H Q I ⟨q, st, h, f⟩ => (pk_cons ha hr).run pos pins s σ H Q I (one h.left f fun d st' H' x a' g r f' =>
    ⟨q, st', (h.grow g a'.w).right, f'.split fun ds st2 f0 H2 g2 w2 f2 vs rs => f2.ret (.refl _ _) w2 (x :: vs) (.cons (Rep.mono (g2.le h.sS h.sL) _ _ r.rep) rs)⟩)⟩
/-- two argument lists, then f -/
theorem many_two {β : Type} {q : Sit} {st : S} {P : β → Hp → Prop} {H : Hp} {σ : L2.St} {f : List D → M β} {R : List V → List V → Hp → Prop} (h : At W q st (varss (ts1 ++ ts2)) σ H) (hf : Fin W q E P (bnd (evs Γ q.ρ (ts1 ++ ts2)) f st) H)
    (k : ∀ ds es st' H' xs ys, ds.length = ts1.length → es.length = ts2.length → At W q st' (varss (ts1 ++ ts2)) σ H' → Grow q.Z H H' → Reps W q.Z (hid q.B H') ds xs → Reps W q.Z (hid q.B H') es ys → Fin W q E P (f (ds ++ es) st') H' → R xs ys H') :
    tA W Γ ts1 E σ H fun xs H1 => tA W Γ ts2 E σ H1 fun ys H2 => R xs ys H2 := by
  rw [evs_app, bnd_assoc] at hf
  rw [varss_app] at h
  refine ⟨q, st, h.left, ?_⟩
  unfold bnd at hf
  cases e1 : evs Γ q.ρ ts1 st with
  | exc x s => rw [e1] at hf; exact hf
  | no => rw [e1] at hf; exact hf
  | ok ds s1 =>
    rw [e1] at hf
    intro H1 g1 w1 xs rx
    refine ⟨q, s1, (h.grow g1 w1).right, ?_⟩
    dsimp only at hf
    cases e2 : evs Γ q.ρ ts2 s1 with
    | exc x s => rw [e2] at hf; exact Fin.grow (r := .exc x s) (β := β) hf g1
    | no => rw [e2] at hf; exact hf
    | ok es s2 =>
      rw [e2] at hf
      intro H2 g2 w2 ys ry
      exact k ds es s2 H2 xs ys (evs_len _ _ _ _ e1) (evs_len _ _ _ _ e2) (by rw [varss_app]; exact h.grow (g1.trans g2) w2) (g1.trans g2) (Reps.mono (g2.le h.sS h.sL) _ _ rx) ry (Fin.grow hf (g1.trans g2))
/-- the keywords' names -/
def kwNames : List Keyword → Option (List Str)
  | [] => some []
  | ⟨some n, _, _⟩ :: r => (kwNames r).map (n :: ·)
  | ⟨none, _, _⟩ :: _ => none
theorem kw_some {env : PySem.Env} {pos : Pos} : ∀ {kws : List Keyword} {ks : List Str}, kwNames kws = some ks → (backToKw pos (keywordEach kws env)).all (·.1.isSome) = true ∧ (backToKw pos (keywordEach kws env)).filterMap (·.1) = ks ∧ (backToKw pos (keywordEach kws env)).any (·.1.isNone) = false
  | [], ks, h => by
    cases h
    exact ⟨rfl, rfl, rfl⟩
  | ⟨some n, v, kp⟩ :: r, ks, h => by
    obtain ⟨ks', h1, rfl⟩ := Option.map_eq_some_iff.mp (show (kwNames r).map (n :: ·) = some ks from h)
    obtain ⟨e1, e2, e3⟩ := kw_some (env := env) (pos := pos) h1
    refine ⟨?_, ?_, ?_⟩
    · show (true && (backToKw pos (keywordEach r env)).all (·.1.isSome)) = true
      rw [e1]
      rfl
    · show n :: (backToKw pos (keywordEach r env)).filterMap (·.1) = n :: ks'
      rw [e2]
    · show (false || (backToKw pos (keywordEach r env)).any (·.1.isNone)) = false
      rw [e3]
      rfl
  | ⟨none, _, _⟩ :: _, _, h => by cases h
/-- no star among the arguments -/
def noStar : List Expr → Bool
  | [] => true
  | .Starred _ _ :: _ => false
  | _ :: r => noStar r
theorem star_one {env : PySem.Env} {e : Expr} {es : List Expr} (h : noStar (e :: es) = true) : starEach (e :: es) env = (false, eval e env) :: starEach es env ∧ noStar es = true := by
  cases e <;> first | exact ⟨rfl, h⟩ | (simp [noStar] at h)
theorem star_any {env : PySem.Env} {pos : Pos} : ∀ {es : List Expr}, noStar es = true → (backTo pos (starEach es env)).any (·.1) = false
  | [], _ => rfl
  | e :: es, h => by
    obtain ⟨h1, h2⟩ := star_one (env := env) h
    rw [h1]
    show (false || (backTo pos (starEach es env)).any (·.1)) = false
    rw [star_any h2]
    rfl
/-- the promise is asked behind the arguments -/
theorem call_ask {σ : L2.St} {H : Hp} {Q : VK} {n : Nat} {perm : List Nat} {q : Sit} {st : S} (hn : ts1.length = n) (hk : ts2.length = ks.length) (hp : ∀ vs : List V, vs.length = n + ks.length → ∀ as, permL perm vs = some as → as.length = ps.length)
    (h : At W q st (vars (.call x (ts1 ++ ts2) perm)) σ H) (f : Fin W q E (PD W q H false Q) (ev Γ q.ρ (.call x (ts1 ++ ts2) perm) st) H) :
    tA W Γ ts1 E σ H fun vs H1 => tA W Γ ts2 E σ H1 fun zs H2 => vs.length = n ∧ zs.length = ks.length ∧ ∃ as, permL perm (vs ++ zs) = some as ∧ spD W Γ x ps.length as H2 Q E :=
  many_two h f fun ds es st' H' xs ys l1 l2 a' g rx ry f' => by
    obtain ⟨as, ea, f'⟩ := Fin.ofO f'
    obtain ⟨vs, ev, rv⟩ := perm_reps (rx.app ry) ea
    have h1 := rx.len
    have h2 := ry.len
    refine ⟨by omega, by omega, vs, ev, hp _ (by rw [List.length_append]; omega) vs ev, q, st', as, a'.s0, rv, ?_⟩
    cases e : Γ x as st' with
    | ok d s2 =>
      rw [e] at f'
      exact fun H2 g2 w2 v r => f' H2 g2 w2 v (.of r)
    | exc y s2 =>
      rw [e] at f'
      exact f'
    | no =>
      rw [e] at f'
      exact f'
theorem call_fin {n : Nat} {perm : List Nat} (F : FnG X.prog X.w X.K X.mg X.base CX k f fd ps (spD W Γ x ps.length)) (hr : RoomG k X.A) (hb : BindP X.K fd ps n ks perm) (hx : Passes CX X E) {pins : List (Addr × Obj)} {σ : L2.St} {Q : VK} {us ws : List Value} {s2 : Shared} {vs zs : List V} {H2 : Hp}
    (I2 : Inv X pins σ H2 s2) (r1 : Vals vs us) (r2 : Vals zs ws) (h : vs.length = n ∧ zs.length = ks.length ∧ ∃ as, permL perm (vs ++ zs) = some as ∧ spD W Γ x ps.length as H2 Q E) (hks : kwNames kws = some ks) :
    wpAny (model X.prog X.w) X.A (call (.ref f) us (((backToKw pos (keywordEach kws X.env)).filterMap (·.1)).zip ws)) (EP X pins σ Q) X.xe s2 := by
  obtain ⟨l1, l2, as, ea, sp⟩ := h
  rw [(kw_some (env := X.env) (pos := pos) hks).2.1]
  exact run_g F hr hb hx I2 r1 r2 (by rw [← r1.length]; exact l1) (by rw [← r2.length]; exact l2) ea sp
theorem r_call {e : Expr} {n : Nat} {perm : List Nat} (D : DefOk X.prog X.w X.K X.mg X.base CX k W Γ x pats) (hr : RoomG k X.A) (hg : Gl X x) (hx : Passes CX X E) (hm : (n, ks, perm) ∈ pats) (ha : PA X (e :: es) (tA W Γ ts1 E)) (hn : ts1.length = n) (hkw : PK X kws (tA W Γ ts2 E)) (hl : ts2.length = ks.length)
    (hks : kwNames kws = some ks) (hs : noStar (e :: es) = true) (hdb : (x == ("__debug__" : Str)) = false) : PE X (.Call (.Name x p) (e :: es) kws pos) (tE W Γ (.call x (ts1 ++ ts2) perm) E) := by
  obtain ⟨f, fd, ps, hmg, hkp, F, hpat⟩ := D.ex
  obtain ⟨hb, hlen⟩ := hpat _ hm
  obtain ⟨k1, k2, k3⟩ := kw_some (env := X.env) (pos := pos) hks
  refine ⟨fun pins s σ H Q I ⟨q, st, h, fn⟩ => ?_⟩
  have ask := call_ask (ps := ps) (Q := Q) hn hl hlen h fn
  refine wpAny_Call_Name_kw (ld_glob I hg hmg ?_ hdb)
  obtain ⟨s1, s2⟩ := star_one (env := X.env) hs
  refine PySem.W.callWith_KW (h₀ := X.base) I.ok.mod.kin hkp k1 (thn (ha.run pos pins s σ H _ I ask) fun us s1 ⟨vs, H1, I1, r1, q1⟩ => ?_) (by rw [star_any hs, k3]; rfl) s1
  exact thn (hkw.run pos pins s1 σ H1 _ I1 q1) fun ws s2 ⟨zs, H2, I2, r2, q2⟩ => ⟨I2.kIn, call_fin F hr hb hx I2 r1 r2 q2 hks⟩
theorem r_call0 {perm : List Nat} (D : DefOk X.prog X.w X.K X.mg X.base CX k W Γ x pats) (hr : RoomG k X.A) (hg : Gl X x) (hx : Passes CX X E) (hm : (0, ks, perm) ∈ pats) (hkw : PK X kws (tA W Γ ts2 E)) (hl : ts2.length = ks.length)
    (hks : kwNames kws = some ks) (hdb : (x == ("__debug__" : Str)) = false) : PE X (.Call (.Name x p) [] kws pos) (tE W Γ (.call x ts2 perm) E) := by
  obtain ⟨f, fd, ps, hmg, hkp, F, hpat⟩ := D.ex
  obtain ⟨hb, hlen⟩ := hpat _ hm
  obtain ⟨k1, k2, k3⟩ := kw_some (env := X.env) (pos := pos) hks
  refine ⟨fun pins s σ H Q I ⟨q, st, h, fn⟩ => ?_⟩
  obtain ⟨q0, st0, h0, f0⟩ := call_ask (ts1 := []) (ps := ps) (Q := Q) rfl hl hlen h fn
  have ask := f0.ret (.refl _ _) h0.w [] rfl
  refine wpAny_Call_Name_kw (ld_glob I hg hmg ?_ hdb)
  refine PySem.W.callWith_KW0 (h₀ := X.base) I.ok.mod.kin hkp k1 ?_ (by show (false || _) = false; rw [k3]; rfl)
  exact thn (hkw.run pos pins s σ H _ I ask) fun ws s2 ⟨zs, H2, I2, r2, q2⟩ => ⟨I2.kIn, call_fin F hr hb hx I2 .nil r2 q2 hks⟩
end
end
end Mp
end
section
/-! Mp: all and any of a generator expression. -/
namespace Mp
open PySem PySem.Spec
                                                                                                    PyProof.Rows L2

/-- the names of a generator expression -/
structure GenOk (N : List Str) (sc scope : Scope) (own : List (Str × Nat)) : Prop where
  kind : scope.kind = .function
  co : scope.isCoroutine
                                                                                                    = false
  cell : ∀ y ∈
                                                                                                    scope.names, y.2 ≠ .cell
  dot : scope.names.lookup
                                                                                                    (".0" : Str) = some NameKind.local
  uniq : ∀ y ∈ scope.names,
                                                                                                    scope.names.lookup y.1 = some y.2
  ix : ∀ p ∈ own,
                                                                                                    N[p.2]? = some p.1
  free : ∀ y ∈ scope.names, y.2 = .free → sc.names.lookup
                                                                                                    y.1 = some .cell ∨ sc.names.lookup y.1 = some .free
  own : ∀ y ∈ scope.names, y.2 = .local → y.1 ∈ own.map (·.1) ∨ y.1 ∉ N
def genB (N : List Str) (sc scope : Scope) (own : List (Str × Nat)) : Bool :=
  decide (scope.kind = .function) && !scope.isCoroutine && decide (scope.names.lookup (".0" : Str) = some NameKind.local) && own.all (fun p => decide (N[p.2]? = some p.1)) && scope.names.all fun y =>
    !decide (y.2 = .cell) && decide (scope.names.lookup y.1 = some y.2) && (!decide (y.2 = .free) || decide (sc.names.lookup y.1 = some .cell) || decide (sc.names.lookup y.1 = some .free)) && (!decide (y.2 = .local) || decide (y.1 ∈ own.map (·.1)) || decide (y.1 ∉ N))
theorem genOk_by {N : List Str} {sc scope : Scope} {own : List (Str × Nat)} (h : genB N sc scope own = true) : GenOk N sc scope own := by
  unfold genB at h
  simp only [Bool.and_eq_true, Bool.or_eq_true, Bool.not_eq_true', decide_eq_true_eq, decide_eq_false_iff_not, List.all_eq_true]
                                                                                                    at h
  obtain ⟨⟨⟨⟨h1, h2⟩, h3⟩, h4⟩, h5⟩ := h
  exact ⟨h1, h2, fun y hy => (h5 y hy).1.1.1, h3, fun y hy => (h5 y hy).1.1.2, h4, fun y hy e => by
    rcases (h5 y hy).1.2 with (z | z) | z
    · exact absurd e z
    · exact .inl z
    · exact .inr z, fun y hy e => by
    rcases (h5 y hy).2 with (z | z) | z
    · exact absurd e z
    · exact .inl z
    · exact .inr z⟩
abbrev gEnv (X : Cx) (scope : Scope) (C : Addr) (code : Value) : PySem.Env := genEnv scope (cloFrom X.env.cells scope.names []) C code builtinsNs X.env
/-- the context of a generator expression's body, made at s -/
abbrev gCx (X : Cx) (A : Around) (s : Shared) (H : Hp) (scope : Scope) (C : Addr) (code : Value) (fp : List Addr) : Cx :=
  { X with A := A.deeper (gEnv X scope C code), s_0 := s, H_0 := H, env := gEnv X scope C code, outer := X.stack, stack := gEnv X scope C code :: X.stack, ex := fp, fn := fun _ => false, calm := true, pn := [], xe := fun _ _ => False }
section
variable {X : Cx} {pins : List
                                                                                                    (Addr × Obj)} {σ : L2.St} {H : Hp} {s : Shared}
theorem gen_start {A : Around} {scope : Scope} {own : List (Str × Nat)} {fp : List Addr} {code itv : Value} {a : Addr} {h5 : Heap} {gobj : Obj} {g' : Array GenState} {tk : Nat} {d' : Drawn} (I : Inv X pins σ H s) (ok : GenOk X.N X.env.scope scope own) (hN : X.N.Nodup) (hfp : ∀ b ∈ fp, FpOk X pins H b ∧ b < s.heap.objs.size)
    (hA : A.handled = none) (hf : A.frames = some X.stack) (hns : h5.Ns s.heap.objs.size fun y => if y = (".0" : Str) then some itv else none) (kp : ∀ b o, s.heap.get? b = some o → h5.get? b = some o) (ha : s.heap.objs.size < a) (ho : h5.get? a = some gobj) (hd : ∀ v, gobj.data ≠ .cell v) (hb : AllBare g') :
    Inv (gCx X A s H scope s.heap.objs.size code fp) [(a, gobj)] (wipe σ (own.map (·.2))) H { s with heap := h5, gens := g', toks := tk, drawn := d' } := by
  have hfree : ∀ y ∈ scope.names, y.2 = .free → ∃ c, X.env.cells.lookup y.1 = some c :=
                                                                                                    fun y hy e => by
    rcases ok.free y hy e
                                                                                                    with k | k
    · exact I.ok.has _ (.inl k)
    · exact I.ok.has _ (.inr k)
  have cm : ∀ {y c},
                                                                                                    (cloFrom X.env.cells scope.names []).lookup y = some c → X.env.cells.lookup y = some c := fun {y c} e => by
    rcases cloFrom_mem
                                                                                                    (PySem.mem_of_lookup e) with hm | ⟨h1, h2⟩
    · cases hm
    · obtain ⟨c1, hc⟩ :=
                                                                                                    hfree _ h1 rfl
      have hc : X.env.cells.lookup y = some c1 :=
                                                                                                    hc
      rw [h2, hc] <;> rfl
  have look : ∀ {y}, scope.names.lookup y = some .free → ∃ c, (cloFrom X.env.cells scope.names []).lookup y = some c := fun {y} hl => mem_lookup (cloFrom_has (cells := X.env.cells) (acc := []) (PySem.mem_of_lookup hl))
  have hsz : ∀ b ∈ fp, b ≠ s.heap.objs.size := fun b hb => Nat.ne_of_lt (hfp b hb).2
  refine ⟨⟨I.ok.mod, ok.kind, I.ok.glob, rfl, Nat.le_refl _, fun y z c e1 e2 => I.ok.inj y z c (cm e1) (cm e2), fun y hy => ?_, fun y c z _ => absurd (show false = true from z) (by decide), fun _ => hA, Around.frames_deeper hf, .inr ⟨rfl, rfl⟩, fun b hb => ⟨hsz b hb, fun y c e => (hfp b hb).1.2.2.2.2.1 y c (cm e)⟩, I.bs, Nat.le_trans I.ok.bsz I.sz, fun b o e hb => ?_, fun b hb z => ?_, I.stack, I.stkFree⟩,
    rfl, hb, Un.kept kp, ⟨_, hns, fun i y v e1 e2 e3 => ?_⟩, fun y c e => ?_, I.hok.fresh (Nat.le_refl _), fun y c e => I.freeC y c (cm e), fun p hp => ?_, I.hok.kept kp, by rw [wipe_length]; exact I.len⟩
  · have hy : scope.names.lookup y = some .cell ∨ scope.names.lookup y = some .free :=
                                                                                                    hy
    rcases hy with hy | hy
    · exact absurd rfl (ok.cell _ (PySem.mem_of_lookup hy))
    · exact look hy
  · rcases (hfp b hb).1.2.2.2.1
                                                                                                    with z | z
    · exact I.ok.noex b o e z
    · exact absurd
                                                                                                    (Nat.lt_of_lt_of_le (Heap.lt_size e) (Nat.le_trans I.ok.bsz z)) (Nat.lt_irrefl _)
  · rcases List.mem_cons.mp
                                                                                                    (I.stkSub b z) with z | z
    · exact (hfp b hb).1.2.1 z
    · exact (hfp b hb).1.2.2.1 z
  · obtain ⟨e2, hne⟩ :=
                                                                                                    wipe_some e2
    have e3 : Vis scope y := e3
    rcases e3 with k | k | k
    · rcases ok.own _ (PySem.mem_of_lookup k) rfl with e' | e'
      · obtain ⟨p, hp, hpy⟩ :=
                                                                                                    List.mem_map.mp e'
        have e3 := ok.ix p hp
        rw [show p.1 = y from hpy] at e3
        exact absurd (List.mem_map.mpr ⟨p, hp, nodup_ix hN e3 e1⟩) hne
      · exact absurd (List.mem_of_getElem? e1) e'
    · exact absurd rfl (ok.cell _ (PySem.mem_of_lookup k))
    · obtain ⟨m, hn, hl⟩ := I.loc
      have hvis : Vis X.env.scope y := (ok.free _ (PySem.mem_of_lookup k) rfl).elim (fun k => .inr (.inl k)) (fun k => .inr (.inr k))
      obtain ⟨w', r, q⟩ :=
                                                                                                    hl i y v e1 e2 hvis
      obtain ⟨c2, h2⟩ := look k
      refine ⟨w', r, .inr
                                                                                                    ⟨.inr k, c2, h2, ?_⟩⟩
      have c1 := cm h2
      rcases q
                                                                                                    with ⟨k', _⟩ | ⟨_, c3, e', z⟩
      · have k' : X.env.scope.names.lookup y = some .local :=
                                                                                                    k'
        rcases ok.free _ (PySem.mem_of_lookup k) rfl with k2 | k2 <;> (rw [show X.env.scope.names.lookup y = _ from k2] at k'; cases k')
      · rw [c1] at e'
        cases e'
        exact z.keeps kp
  · obtain ⟨w', z⟩ := I.cell y c
                                                                                                    (cm e)
    exact ⟨w', z.keeps kp⟩
  · have hp : p = (a, gobj) := by simpa using hp
    subst hp
    exact ⟨ho, I.hok.fresh (Nat.le_of_lt ha), Nat.ne_of_gt ha, fun z => by
      rcases List.mem_cons.mp (I.stkSub _ z) with z | z
      · exact absurd (I.lt) (by rw [← z]; exact Nat.not_lt.mpr (Nat.le_of_lt ha))
      · exact I.nofs (Nat.le_of_lt ha) z, hd⟩
/-- nothing but the tables of generators and tokens is other -/
theorem inv_same {s' : Shared} (I : Inv X pins σ H s) (h1 : s'.heap = s.heap) (h2 : s'.os = s.os) (h3 : AllBare s'.gens) : Inv X pins σ H s' := by
  obtain ⟨hh, g, d, t, o⟩ := s'
  simp only at h1 h2 h3
  subst h1 h2
  exact ⟨I.ok, I.os, h3, I.base, I.loc, I.cell, I.free, I.freeC, I.pin, I.hok, I.len⟩
end

/-! ### the body -/
/-- within a generator expression: the situation behind the target's store -/
theorem at_gen {W : Wp} {q : Sit} {st st' : S} {us vs own : List Nat} {σ σ2 : L2.St} {H1 H' : Hp} {d : D} {g : G} {ρ' : Env} (h : At W q st us σ H1) (gr : Grow q.Z H1 H') (w : Wld W q.Z st' H') (hb : bindG g d q.ρ = some ρ') (ho : own = slotsG g)
    (b : Bd W q.Z (hid q.B H') (slotsG g) ρ' (wipe σ own) σ2) (hv : ∀ i ∈ vs, i ∈ slotsG g ∨ i ∈ us) : At W ⟨q.Z, q.B, ρ'⟩ st' vs σ2 H' := by
  refine ⟨h.sS, h.sL, w, fun a ha => mu_grow (h.hB a ha) gr w, ?_, fun i hi d' e => ?_⟩
  · show ρ'.length = σ2.length
    rw [bindG_len hb, h.len, b.len, wipe_length]
  · by_cases hg : i ∈ slotsG g
    · exact b.see i hg d' e
    · have e' : getE q.ρ i = some d' := by
        rw [← bindG_out hb hg]
        exact e
      obtain ⟨v, h1, h2⟩ := h.see i ((hv i hi).resolve_left hg) d' e'
      exact ⟨v, by rw [b.out i hg, wipe_get, if_neg (fun z => hg (ho ▸ z.1)), h1], Rep.mono (gr.le h.sS h.sL) _ _ h2⟩
theorem over_gen {A : Around} {elt : Expr} {gs : List Comprehension} {scope : Scope} {pos : Pos} {it acc : Value} {env : PySem.Env} : A.over (.compLoop (.GeneratorExp elt gs scope pos) 0 it acc env) [] = A.deeper env := by
  obtain ⟨hd, d, fr, gs', u⟩ := A
  simp [Around.over, Around.deeper, marksOver, frameCount, unitsOf, envsOf, guardsOf, pushEnvs, pushGuards, Code.envs, Code.env?, Code.isFrame, Code.guards, Code.isGuard, Code.weight, Code.frames, Code.isCreation, Code.isCaller, Code.cUnits]
theorem over_genS {A : Around} {elt : Expr} {gs : List Comprehension} {scope : Scope} {pos : Pos} {it acc : Value} {env : PySem.Env} : A.over (.compStart (.GeneratorExp elt gs scope pos) 0 it acc env) [] = A.deeper env := by
  obtain ⟨hd, d, fr, gs', u⟩ := A
  simp [Around.over, Around.deeper, marksOver, frameCount, unitsOf, envsOf, guardsOf, pushEnvs, pushGuards, Code.envs, Code.env?, Code.isFrame, Code.guards, Code.isGuard, Code.weight, Code.frames, Code.isCreation, Code.isCaller, Code.cUnits]
/-- the element's computation -/
def quF (Γ : Gam) (g : G) (ρ : Env) (elt : T) (d : D) : M Bool := bnd (ofO (bindG g d ρ)) fun ρ' => bnd (ev Γ ρ' elt) fun y => ofO (blD y)
/-- what is the same through a generator expression's turns -/
structure GP (β : Type) where
  W : Wp
  Γ : Gam
  q : Sit
  E : XK
  P : β → Hp → Prop
  al : Bool
  f : Bool → M β
  g : G
  ce : T
  xs : List D
  H1 : Hp
  a : Addr
  gobj : Obj
  σ : L2.St
  fp : List Addr
  tn : Nat → Heap → Prop
section
variable {β : Type} (p : GP β) (XG : Cx)
def GP.F : D → M Bool := quF p.Γ p.g p.q.ρ p.ce
/-- ahead of turn i -/
def GP.inv (i : Nat) (s : Shared) : Prop := ∃ st H, Inv XG [(p.a, p.gobj)] p.σ H s ∧ p.tn i s.heap ∧ (∀ b ∈ p.fp, H b = none) ∧ Grow p.q.Z p.H1 H ∧ Wld p.W p.q.Z st H ∧ Fin p.W p.q p.E p.P (bnd (nox (quM p.al p.F (p.xs.drop i))) p.f st) p.H1
/-- behind turn i, the element b -/
def GP.mid (i : Nat) (b : Bool) (s : Shared) : Prop := ∃ st H, Inv XG [(p.a, p.gobj)] p.σ H s ∧ p.tn (i + 1) s.heap ∧ (∀ b ∈ p.fp, H b = none) ∧ Grow p.q.Z p.H1 H ∧ Wld p.W p.q.Z st H ∧ Fin p.W p.q p.E p.P (bnd (nox (if b = p.al then quM p.al p.F (p.xs.drop (i + 1)) else ret (!p.al))) p.f st) p.H1
/-- at the end -/
def GP.fin (s : Shared) : Prop := ∃ st H, Inv XG [(p.a, p.gobj)] p.σ H s ∧ Grow p.q.Z p.H1 H ∧ Wld p.W p.q.Z st H ∧ Fin p.W p.q p.E p.P (p.f p.al st) p.H1
def GP.Y : Protocol := fun n _ v s kap => ∃ i b, n = p.xs.length - (i + 1) ∧ i < p.xs.length ∧ v = .bool b ∧ p.mid XG i b s ∧ (b = p.al → ∀ s'' : Shared, s''.heap = s.heap → s''.os = s.os → AllBare s''.gens → kap (.send .none) s'')
def GP.R : GenEnd := fun _ _ r s => r = .ok .next ∧ p.fin XG s
end
section
variable {β : Type} {p : GP β} {X : Cx} {B : Around} {s4 : Shared} {H4 : Hp} {scope : Scope} {own : List (Str × Nat)} {C it : Addr} {code : Value} {elt tg iter : Expr} {gpos : Pos} {J : It} {us : List Nat} {st0 : S} {σ0 : L2.St}
theorem gp_fpk {σ : L2.St} {H : Hp} {s : Shared} (hap : ∀ b ∈ p.fp, p.a ≠ b) (I : Inv (gCx X B s4 H4 scope C code p.fp) [(p.a, p.gobj)] σ H s) (n : ∀ b ∈ p.fp, H b = none) : ∀ b ∈ p.fp, FpOk (gCx X B s4 H4 scope C code p.fp) [(p.a, p.gobj)] H b :=
  fun b hb => ⟨n b hb, (I.ok.exf b hb).1, I.ok.exfs b hb, .inl hb, fun x c e => (I.ok.exf b hb).2 x c e, fun q hq z => by
    have hq : q = (p.a, p.gobj) := by simpa using hq
    rw [hq] at z
    exact hap b hb z⟩
theorem gp_same {XG : Cx} {i : Nat} {b : Bool} {s s'' : Shared} (h : p.mid XG i b s) (hb : b = p.al) (h1 : s''.heap = s.heap) (h2 : s''.os = s.os) (h3 : AllBare s''.gens) : p.inv XG (i + 1) s'' := by
  obtain ⟨st, H, I, t, n, gr, w, f⟩ := h
  rw [if_pos hb] at f
  exact ⟨st, H, inv_same I h1 h2 h3, by rw [h1]; exact t, n, gr, w, f⟩
set_option maxHeartbeats
                                                                                                    1000000 in
theorem seg_loop (hap : ∀ b ∈ p.fp, p.a ≠ b) (hB : (gCx X B s4 H4 scope C code p.fp).A.handled = none) (hσ : p.σ = wipe σ0 (own.map (·.2))) (ho : own.map (·.2) = slotsG p.g) (T : Turn X.prog X.w X.K tg J p.fp it p.tn) (wd : WalkD p.W p.q p.H1 J p.xs) (h : At p.W p.q st0 us σ0 p.H1) (hv : ∀ i ∈ vars p.ce, i ∈ slotsG p.g ∨ i ∈ us)
    (hco : scope.isCoroutine = false) (hg : PG (gCx X B s4 H4 scope C code p.fp) tg (tG p.W p.g)) (he : PE (gCx X B s4 H4 scope C code p.fp) elt (tE p.W p.Γ p.ce E0)) :
    ∀ (k i : Nat) (s₀ s : Shared), p.xs.length - i = k → i ≤ p.xs.length → p.inv (gCx X B s4 H4 scope C code p.fp) i s →
      Seg (model X.prog X.w) B (p.R (gCx X B s4 H4 scope C code p.fp)) (p.Y (gCx X B s4 H4 scope C code p.fp)) k s₀ (.compLoop (.GeneratorExp elt [⟨tg, iter, [], 0⟩] scope gpos) 0 (.ref it) .none (gEnv X scope C code))
        ((model X.prog X.w).den (.compLoop (.GeneratorExp elt [⟨tg, iter, [], 0⟩] scope gpos) 0 (.ref it) .none (gEnv X scope C code))) [] s := by
  intro k
  induction k with
  | zero =>
    intro i s₀ s hk hi hinv
    have hin : i = p.xs.length := by omega
    subst hin
    obtain ⟨st, H, I, t, n, gr, w, f⟩ := hinv
    have g1 : WG p.q p.H1 H := ⟨gr.le h.sS h.sL, fun a ha z => gr.there a (by rcases h.hB a ha with ⟨_, e⟩ | ⟨_, e⟩ <;> (rw [e]; simp)) z⟩
    have fpk := gp_fpk hap I n
    show Seg _ B _ _ _ s₀ _ ((compTurn (.GeneratorExp elt [⟨tg, iter, [], 0⟩] scope gpos) 0 (.ref it) .none (gEnv X scope C code)).onRaise (leaving (gEnv X scope C code))) [] s
    rw [compTurn_gen,
                                                                                                    Sem.onRaise_eq_wrap]
    refine seg_bind_wrap
                                                                                                    (wpAny_standAt ?_)
    refine seg_bind_wrap ?_
    rw [over_gen]
    refine wpAny_mono (T.done (gCx X B s4 H4 scope C code p.fp) rfl rfl rfl rfl p.xs.length _ s _ H _ I fpk t (wd.stops H g1)) (fun r s1 ⟨hr, I1⟩ => ?_) fun _ _ e => e
    subst hr
    exact seg_end (.ok .next) ⟨rfl, st, H, I1, gr, w, by
      rw [List.drop_length, quM] at f
      exact f⟩
  | succ k ih =>
    intro i s₀ s hk hi hinv
    have hlt : i < p.xs.length := by omega
    obtain ⟨st, H, I, t, n, gr, w, f⟩ := hinv
    have g1 : WG p.q p.H1 H := ⟨gr.le h.sS h.sL, fun a ha z => gr.there a (by rcases h.hB a ha with ⟨_, e⟩ | ⟨_, e⟩ <;> (rw [e]; simp)) z⟩
    have fpk := gp_fpk hap I n
    show Seg _ B _ _ _ s₀ _ ((compTurn (.GeneratorExp elt [⟨tg, iter, [], 0⟩] scope gpos) 0 (.ref it) .none (gEnv X scope C code)).onRaise (leaving (gEnv X scope C code))) [] s
    rw [compTurn_gen,
                                                                                                    Sem.onRaise_eq_wrap]
    refine seg_bind_wrap
                                                                                                    (wpAny_standAt ?_)
    refine seg_bind_wrap ?_
    rw [over_gen]
    refine wpAny_mono (T.item (gCx X B s4 H4 scope C code p.fp) rfl rfl rfl rfl i _ s _ H _ I fpk t (wd.goes i H hlt g1)) (fun r s1 ⟨u, hr, h6⟩ => ?_) fun _ _ e => e
    subst hr
    dsimp only
    refine seg_bind_wrap ?_
    rw [over_gen]
    refine wpAny_mono h6 (fun _ s2 ⟨x, H2, I2, r2, y2, t2, n2⟩ => ?_) fun _ _ e => e
    obtain ⟨yn, d, ed, rd⟩ := wd.yields i H x H2 hlt g1 y2
    obtain ⟨g3, w3⟩ := wld_wy (xs := p.xs) (i := i) (H1 := p.H1) (x := x) ⟨yn, d, ed, rd⟩ w
    have hx : p.xs.drop i = d :: p.xs.drop (i + 1) := by
      obtain ⟨hi', e⟩ := List.getElem?_eq_some_iff.mp ed
      rw [← e]
      exact List.drop_eq_getElem_cons hi'
    have g13 := gr.trans g3
    rw [hx, quM, nox_bnd, bnd_assoc, GP.F, quF, nox_bnd, bnd_assoc, nox_ofO] at f
    obtain ⟨ρ', hb, f⟩ := f.ofO
    have rD : Rep p.W p.q.Z (hid p.q.B H2) d x := rd _ ⟨fun a ha => ha, fun a ha => .inl ha, fun a ha z => g1.2 a ha z⟩
    refine seg_bind_wrap ?_
    rw [over_gen]
    refine wpAny_mono (hg.run _ s2 _ H2 x u (fun σ' H' => H' = H2 ∧ Bd p.W p.q.Z (hid p.q.B H2) (slotsG p.g) ρ' p.σ σ') (I2.pinned (gp_fpk hap I2 n2) (T.obj _ _ t2)) r2 ⟨p.q.Z, hid p.q.B H2, d, p.q.ρ, ρ', fun a vs e => (hid_some e).2, rD, hb, by rw [hσ, wipe_length]; exact h.len, fun σ' b => ⟨rfl, b⟩⟩)
      (fun _ s3 ⟨σ3, H3, I3, e3, b⟩ => ?_) fun _ _ z => False.elim z
    have e3' := e3.symm
    subst e3'
    refine seg_bind_wrap ?_
    simp only [List.forIn_nil]
    refine wpAny_pure ?_
    simp only [if_true]
    have hy : ∀ v, yieldOut (gEnv X scope C code) v = yieldValue v := fun v => by
      have hco' : (gEnv X scope C code).scope.isCoroutine = false := hco
      simp only [yieldOut, hco', Bool.false_eq_true, if_false]
    simp only [hy]
    rw [Sem.bind_eq_wrap', Sem.bind_eq_wrap',
                                                                                                    Sem.wrap_wrap, Sem.wrap_wrap]
    refine seg_wrap ?_
    rw [over_gen]
    rw [nox_bnd, bnd_assoc] at f
    have b' : Bd p.W p.q.Z (hid p.q.B H2) (slotsG p.g) ρ' (wipe σ0 (own.map (·.2))) σ3 := hσ ▸ b
    refine wpAny_mono (he.run _ s3 σ3 H2 (fun v H5 => ∃ bb st5, v = .bl bb ∧ Grow p.q.Z p.H1 H5 ∧ Wld p.W p.q.Z st5 H5 ∧ Fin p.W p.q p.E p.P (bnd (nox (if bb = p.al then quM p.al p.F (p.xs.drop (i + 1)) else ret (!p.al))) p.f st5) p.H1) I3
      ⟨⟨p.q.Z, p.q.B, ρ'⟩, st, at_gen h g13 w3 hb ho b' hv, f.splitB g13 fun dy st5 f5 H5 g5 w5 v rv => ?_⟩) (fun y s4' ⟨v, H5, I5, rv, bb, st5, ev, g15, w5, f5⟩ => ?_) fun _ _ z => False.elim z
    · rw [nox_ofO] at f5
      obtain ⟨bb, eb, f5⟩ := f5.ofO
      have ed := blD_some eb
      rw [ed] at rv
      exact ⟨bb, st5, rv.rep, g13.trans g5, w5, f5⟩
    · rw [ev] at rv
      have ey : y = .bool bb := rv
      have hpin : ∀ b ∈ p.fp, ∀ o, s2.heap.get? b = some o → s4'.heap.get? b = some o ∧ H5 b = none := fun b hb o e =>
        let z := I5.pin (b, o) (List.mem_append_right _ (List.mem_append_right _ (mem_pinsAt hb e)))
        ⟨z.1, z.2.1⟩
      have tt : p.tn (i + 1) s4'.heap := T.keep _ _ _ t2 fun b hb o e => (hpin b hb o e).1
      have nn : ∀ b ∈ p.fp, H5 b = none := fun b hb => by
        obtain ⟨o, e, _⟩ := T.obj _ _ t2 b hb
        exact (hpin b hb o e).2
      have I6 : Inv (gCx X B s4 H4 scope C code p.fp) [(p.a, p.gobj)] p.σ H5 s4' := by
        refine (I5.unpinned (pins := [(p.a, p.gobj)])).weak (by rw [b.len]) fun j v e => ?_
        by_cases hj : j ∈ slotsG p.g
        · rw [hσ] at e
          exact absurd (ho ▸ hj) (wipe_some e).2
        · rw [b.out j hj]
          exact e
      have hm : p.mid (gCx X B s4 H4 scope C code p.fp) i bb s4' := ⟨st5, H5, I6, tt, nn, g15, w5, f5⟩
      refine seg_at (seg_yield rfl rfl rfl ⟨i, bb, by omega, hlt, ey, hm, fun hbb s'' h1 h2 h3 => ?_⟩)
      exact seg_again rfl (ih (i + 1) s'' s'' (by omega) hlt (gp_same hm hbb h1 h2 h3))
/-- what the body asks of a generator expression -/
structure GBody {β : Type} (p : GP β) (X : Cx) (B : Around) (s4 : Shared) (H4 : Hp) (scope : Scope) (own : List (Str × Nat)) (C it : Addr) (code : Value) (elt tg : Expr) (J : It) (us : List Nat) (st0 : S) (σ0 : L2.St) : Prop where
  hap : ∀ b ∈ p.fp, p.a ≠ b
  hB : (gCx X B s4 H4 scope C code p.fp).A.handled = none
  hσ : p.σ = wipe σ0 (own.map (·.2))
  ho : own.map (·.2) = slotsG p.g
  T : Turn X.prog X.w X.K tg J p.fp it p.tn
  wd : WalkD p.W p.q p.H1 J p.xs
  h : At p.W p.q st0 us σ0 p.H1
  hv : ∀ i ∈ vars p.ce, i ∈ slotsG p.g ∨ i ∈ us
  hco : scope.isCoroutine = false
  hg : PG (gCx X B s4 H4 scope C code p.fp) tg (tG p.W p.g)
  he : PE (gCx X B s4 H4 scope C code p.fp) elt (tE p.W p.Γ p.ce E0)
theorem seg_start (G : GBody p X B s4 H4 scope own C it code elt tg J us st0 σ0) (s₀ s : Shared) (hi : p.inv (gCx X B s4 H4 scope C code p.fp) 0 s) :
    Seg (model X.prog X.w) B (p.R (gCx X B s4 H4 scope C code p.fp)) (p.Y (gCx X B s4 H4 scope C code p.fp)) p.xs.length s₀ (.compStart (.GeneratorExp elt [⟨tg, iter, [], 0⟩] scope gpos) 0 (.ref it) .none (gEnv X scope C code))
      ((model X.prog X.w).den (.compStart (.GeneratorExp elt [⟨tg, iter, [], 0⟩] scope gpos) 0 (.ref it) .none (gEnv X scope C code))) [] s := by
  have loop := seg_loop (iter := iter) (gpos := gpos) G.hap G.hB G.hσ G.ho G.T G.wd G.h G.hv G.hco G.hg G.he p.xs.length 0 s₀ s (by simp) (Nat.zero_le _) hi
  have ht : p.tn 0 s.heap := let ⟨_, _, _, t, _⟩ := hi; t
  show Seg _ B _ _ _ s₀ _ ((compStart (.GeneratorExp elt [⟨tg, iter, [], 0⟩] scope gpos) 0 (.ref it) .none (gEnv X scope C code)).onRaise (leaving (gEnv X scope C code))) [] s
  unfold compStart
  rw [Sem.onRaise_eq_wrap]
  show Seg _ B _ _ _ s₀ _ ((ask >>= _).wrap _ _ _ _) [] s
  refine seg_bind_wrap
                                                                                                    (wpAny_askSetting ?_)
  split
  · exact seg_again rfl loop
  · refine seg_bind_wrap (wpAny_rule ?_)
    show Seg _ B _ _ _ s₀ _ ((standAt iter.pos >>= _).wrap _ _ _ _) [] s
    exact seg_bind_wrap (wpAny_standAt (seg_bind_wrap (G.T.self _ 0 s _ _ ht (seg_again rfl loop))))
/-- the generator waits ahead of turn i -/
def GWait {β : Type} (p : GP β) (X XG : Cx) (B : Around) (g m : Nat) (s : Shared) : Prop := s.heap.IsGen p.a g ∧ s.heap.NoLimit ∧ g < s.gens.size ∧ AllBare s.gens ∧ ∃ gs, s.gens[g]? = some gs ∧
  ∀ s'' : Shared, s''.heap = s.heap → s''.os = s.os → AllBare s''.gens → gs.Goes (model X.prog X.w) B (p.R XG) (p.Y XG) m (.send .none) s''
/-- a turn of all, of any -/
theorem gen_next {XG : Cx} {g m : Nat} {s : Shared} {Q : Option Value → Shared → Prop} {E : Value → Shared → Prop} {A : Around} (hh : A.handled = none) (hr : A.depth < recursionLimit) (hIs : ∀ s H, Inv XG [(p.a, p.gobj)] p.σ H s → s.heap.IsGen p.a g) (w : GWait p X XG A.in1 g m s)
    (hY : ∀ i b s1 s2, i < p.xs.length → p.mid XG i b s1 → s2.heap = s1.heap → s2.os = s1.os → AllBare s2.gens → (b = p.al → ∃ m', m = m' + 1 ∧ GWait p X XG A.in1 g m' s2) → Q (some (.bool b)) s2)
    (hE : ∀ s1 h' s2, p.fin XG s1 → (∀ b o, s1.heap.get? b = some o → h'.get? b = some o) → s2.heap = h' → s2.os = s1.os → AllBare s2.gens → Q none s2) : wpAny (model X.prog X.w) A (pyNext (.ref p.a)) Q E s := by
  obtain ⟨hg, hl, hsz, hb, gs, hgs, hgo⟩ := w
  refine GenW.wpAny_gsz (n := g + 1) hsz (wpAny_pyNext_genexpQ (P := fun _ _ s => p.fin XG s) hh hl hr hg hgs (hgo _ rfl rfl (allBare_setGen hb rfl)) (fun v s1 gs' hbare hv => ?_) fun s1 hp h' hk => ?_)
  · obtain ⟨i, b, hn, hi, ev, hm, hk⟩ := hv
    intro hsz1
    have hb1 : AllBare s1.gens := let ⟨_, _, I, _⟩ := hm; I.bare
    subst ev
    have hlt : g < s1.gens.size := by
      have q : (s1.setGen g gs').gens.size = s1.gens.size := GenW.setGen_size _ _ _
      have : g + 1 ≤ (s1.setGen g gs').gens.size := hsz1
      omega
    have hb2 : AllBare (s1.setGen g gs').gens := allBare_setGen hb1 hbare
    refine hY i b s1 _ hi hm rfl rfl hb2 fun hba => ?_
    cases m with
    | zero => exact False.elim (hk hba s1 rfl rfl hb1)
    | succ m =>
      obtain ⟨_, _, I, _⟩ := hm
      have hI := hIs s1 _ I
      exact ⟨m, rfl, hI, I.nolimit, by rw [show (s1.setGen g gs').gens.size = s1.gens.size from GenW.setGen_size _ _ _]; exact hlt, hb2, gs', setGen_at hlt, fun s'' h1 h2 h3 => hk hba s'' h1 h2 h3⟩
  · intro _
    have hb1 : AllBare s1.gens := let ⟨_, _, I, _⟩ := hp; I.bare
    exact hE s1 h' _ hp hk rfl rfl (allBare_setGen hb1 rfl)
/-- all's loop, any's -/
theorem all_loop {XG : Cx} {g : Nat} {A : Around} {R : Result → Shared → Prop} (hal : p.al = true) (hh : A.handled = none) (hr : A.depth < recursionLimit) (hIs : ∀ s H, Inv XG [(p.a, p.gobj)] p.σ H s → s.heap.IsGen p.a g)
    (hF : ∀ i s1 s2, p.mid XG i false s1 → s2.heap = s1.heap → s2.os = s1.os → AllBare s2.gens → R (.ok (.ret (.bool false))) s2)
    (hT : ∀ s1 h' s2, p.fin XG s1 → (∀ b o, s1.heap.get? b = some o → h'.get? b = some o) → s2.heap = h' → s2.os = s1.os → AllBare s2.gens → R (.ok (.ret (.bool true))) s2) :
    ∀ (m : Nat) (s : Shared), GWait p X XG A.in1.in1 g m s → codeAny (model X.prog X.w) A (.builtin "all.loop" ⟨[.ref p.a], []⟩) R s := by
  intro m
  induction m with
  | zero =>
    intro s w
    refine codeAny_builtin PySem.F.entry_all_loop ?_
    rw [Around.under_plainId PySem.F.plain_all_loop _]
    show wpAny _ A.in1 (pyNext (.ref p.a) >>= _) _ _ s
    refine wpAny_bind (gen_next (A := A.in1) hh hr hIs w (fun i b s1 s2 hi hm h1 h2 h3 hk => ?_) fun s1 h' s2 hp hk h1 h2 h3 => wpAny_bind (wpAny_rule (wpAny_pure (hT s1 h' s2 hp hk h1 h2 h3))))
    refine wpAny_bind
                                                                                                    (wpAny_holding (wpAny_truthy_bool ?_))
    refine wpAny_bind
                                                                                                    (wpAny_letGo ?_)
    cases b with
    | false => exact wpAny_bind (wpAny_rule (wpAny_pure (hF i s1 s2 hm h1 h2 h3)))
    | true =>
      obtain ⟨m', e, _⟩ := hk hal.symm
      cases e
  | succ m ih =>
    intro s w
    refine codeAny_builtin PySem.F.entry_all_loop ?_
    rw [Around.under_plainId PySem.F.plain_all_loop _]
    show wpAny _ A.in1 (pyNext (.ref p.a) >>= _) _ _ s
    refine wpAny_bind (gen_next (A := A.in1) hh hr hIs w (fun i b s1 s2 hi hm h1 h2 h3 hk => ?_) fun s1 h' s2 hp hk h1 h2 h3 => wpAny_bind (wpAny_rule (wpAny_pure (hT s1 h' s2 hp hk h1 h2 h3))))
    refine wpAny_bind
                                                                                                    (wpAny_holding (wpAny_truthy_bool ?_))
    refine wpAny_bind
                                                                                                    (wpAny_letGo ?_)
    cases b with
    | false => exact wpAny_bind (wpAny_rule (wpAny_pure (hF i s1 s2 hm h1 h2 h3)))
    | true =>
      obtain ⟨m', e, w'⟩ := hk hal.symm
      cases e
      exact wpAny_pure ⟨plainId_quiet PySem.F.plain_all_loop _, ih s2 w'⟩
theorem any_loop {XG : Cx} {g : Nat} {A : Around} {R : Result → Shared → Prop} (hal : p.al = false) (hh : A.handled = none) (hr : A.depth < recursionLimit) (hIs : ∀ s H, Inv XG [(p.a, p.gobj)] p.σ H s → s.heap.IsGen p.a g)
    (hF : ∀ i s1 s2, p.mid XG i true s1 → s2.heap = s1.heap → s2.os = s1.os → AllBare s2.gens → R (.ok (.ret (.bool true))) s2)
    (hT : ∀ s1 h' s2, p.fin XG s1 → (∀ b o, s1.heap.get? b = some o → h'.get? b = some o) → s2.heap = h' → s2.os = s1.os → AllBare s2.gens → R (.ok (.ret (.bool false))) s2) :
    ∀ (m : Nat) (s : Shared), GWait p X XG A.in1.in1 g m s → codeAny (model X.prog X.w) A (.builtin "any.loop" ⟨[.ref p.a], []⟩) R s := by
  intro m
  induction m with
  | zero =>
    intro s w
    refine codeAny_builtin PySem.F.entry_any_loop ?_
    rw [Around.under_plainId PySem.F.plain_any_loop _]
    show wpAny _ A.in1 (pyNext (.ref p.a) >>= _) _ _ s
    refine wpAny_bind (gen_next (A := A.in1) hh hr hIs w (fun i b s1 s2 hi hm h1 h2 h3 hk => ?_) fun s1 h' s2 hp hk h1 h2 h3 => wpAny_bind (wpAny_rule (wpAny_pure (hT s1 h' s2 hp hk h1 h2 h3))))
    refine wpAny_bind
                                                                                                    (wpAny_holding (wpAny_truthy_bool ?_))
    refine wpAny_bind
                                                                                                    (wpAny_letGo ?_)
    cases b with
    | true => exact wpAny_bind (wpAny_rule (wpAny_pure (hF i s1 s2 hm h1 h2 h3)))
    | false =>
      obtain ⟨m', e, _⟩ := hk hal.symm
      cases e
  | succ m ih =>
    intro s w
    refine codeAny_builtin PySem.F.entry_any_loop ?_
    rw [Around.under_plainId PySem.F.plain_any_loop _]
    show wpAny _ A.in1 (pyNext (.ref p.a) >>= _) _ _ s
    refine wpAny_bind (gen_next (A := A.in1) hh hr hIs w (fun i b s1 s2 hi hm h1 h2 h3 hk => ?_) fun s1 h' s2 hp hk h1 h2 h3 => wpAny_bind (wpAny_rule (wpAny_pure (hT s1 h' s2 hp hk h1 h2 h3))))
    refine wpAny_bind
                                                                                                    (wpAny_holding (wpAny_truthy_bool ?_))
    refine wpAny_bind
                                                                                                    (wpAny_letGo ?_)
    cases b with
    | true => exact wpAny_bind (wpAny_rule (wpAny_pure (hF i s1 s2 hm h1 h2 h3)))
    | false =>
      obtain ⟨m', e, w'⟩ := hk hal.symm
      cases e
      exact wpAny_pure ⟨plainId_quiet PySem.F.plain_any_loop _, ih s2 w'⟩
end
end Mp
end
section
/-! Mp: a generator expression is made and walked. -/
namespace Mp
open PySem PySem.Spec
                                                                                                    PyProof.Rows L2

theorem wld_tab {W : Wp} {Z : Zp} {st : S} {H : Hp} {P : Addr} {ps qs : Array Value} (w : Wld W Z st H) (hl : ∀ p ∈ W.ltabs, p.1 ≠ P) (hP : H P = some (.tbl ps)) (ht : TriplesOk qs.toList) : Wld W Z st (upd H P (.tbl qs)) := by
  have ne : ∀ {a : Addr} {o : HO}, H a = some o → (∀ x, o ≠ .tbl x) → upd H P (.tbl qs) a = some o := fun {a o} e n => by
    rw [upd_ne fun z => ?_]
    · exact e
    · rw [z, hP] at e
      exact n ps (Option.some.inj e).symm
  refine ⟨ne w.s (fun x z => by cases z), ne w.c (fun x z => by cases z), ne w.l (fun x z => by cases z), w.len, w.pos, w.few, w.at0, fun Q hQ => ?_, fun Q hQ => ?_⟩
  · by_cases e : Q = P
    · rw [e]
      exact ⟨qs, upd_same, ht⟩
    · obtain ⟨rs, e1, e2⟩ := w.t Q hQ
      exact ⟨rs, by rw [upd_ne e]; exact e1, e2⟩
  · obtain ⟨rs, e1, e2, e3⟩ := w.lt Q hQ
    refine ⟨rs, by rw [upd_ne (hl Q hQ)]; exact e1, e2, fun pos cv hc => ?_⟩
    obtain ⟨c, g1, g2⟩ := e3 pos cv hc
    exact ⟨c, g1, ne g2 fun x z => LamX.codeO_ne x z⟩
theorem grow_tab {Z : Zp} {H : Hp} {P : Addr} {ps qs : Array Value} (hP : H P = some (.tbl ps)) : Grow Z H (upd H P (.tbl qs)) :=
  ⟨fun a u e _ _ n => by
    rw [upd_ne fun z => ?_]
    · exact e
    · rw [z, hP] at e
      exact n ps (Option.some.inj e).symm, fun a e z => by
    by_cases q : a = P
    · rw [q, upd_same] at z
      cases z
    · rw [upd_ne q] at z
      exact e z⟩
section
variable {β : Type} {X : Cx} {W : Wp} {Γ : Gam} {E : XK} {elt tg iter : Expr} {scope : Scope} {own : List (Str × Nat)} {gpos : Pos} {g : G} {k : IK} {its : List T} {ce : T} {c P : Addr} {kk : Nat}
/-- a generator that is ready: how its walk comes back to the maker -/
structure GReady (p : GP β) (X : Cx) (pins : List (Addr × Obj)) (σ : L2.St) (a : Addr) (s5 : Shared) : Prop where
  ad : p.a = a
  ex : ∃ (XG : Cx) (gi m : Nat), GWait p X XG X.A.in1.in1 gi m s5 ∧ (∀ s H, Inv XG [(p.a, p.gobj)] p.σ H s → s.heap.IsGen p.a gi) ∧
    ∀ H' s1 s2 h', Inv XG [(p.a, p.gobj)] p.σ H' s1 → (∀ b o, s1.heap.get? b = some o → h'.get? b = some o) → s2.heap = h' → s2.os = s1.os → AllBare s2.gens → Inv X pins σ H' s2
set_option maxHeartbeats
                                                                                                    1000000 in
theorem gen_make {pins : List (Addr × Obj)} {σ : L2.St} {H : Hp} {s : Shared} {al : Bool} {q : Sit} {st : S} {PP : β → Hp → Prop} {ff : Bool → M β} {Q' : Value → Shared → Prop} (hc : X.calm = true) (hN : X.N.Nodup) (hr : RoomG (kk + 1) X.A) (TB : LamX.TabB X.base X.mg c P) (hcode : X.env.code = .ref c) (hP : P ∈ W.tabs) (hPl : ∀ p ∈ W.ltabs, p.1 ≠ P)
    (ok : GenOk X.N X.env.scope scope own) (ho : own.map (·.2) = slotsG g) (hi : PI X tg iter (iX W Γ k its E)) (hs : ∀ x, genFold iter X.env x = pure x)
    (hg : ∀ (s : Shared) (H : Hp) (C : Addr) (code : Value) (fp : List Addr), PG (gCx X X.A.in1.in1 s H scope C code fp) tg (tG W g))
    (he : ∀ (s : Shared) (H : Hp) (C : Addr) (code : Value) (fp : List Addr), PE (gCx X X.A.in1.in1 s H scope C code fp) elt (tE W Γ ce E0))
    (I : Inv X pins σ H s) (h : At W q st (varss its ++ (vars ce).filter fun i => !(slotsG g).contains i) σ H) (f : Fin W q E PP (bnd (itM Γ q.ρ k its) (fun p => (fun xs => bnd (nox (quM al (quF Γ g q.ρ ce) xs)) ff) p.2) st) H)
    (hQ : ∀ (p : GP β) a s5, p.al = al → p.W = W → p.q = q → p.E = E → p.P = PP → p.f = ff → Grow q.Z H p.H1 → GReady p X pins σ a s5 → Q' (.ref a) s5) :
    wpAny (model X.prog X.w) X.A (eval (.GeneratorExp elt [⟨tg, iter, [], 0⟩] scope gpos) X.env) Q' X.xe s := by
  have hfree : ∀ y ∈ scope.names, y.2 = .free → ∃ c, X.env.cells.lookup y.1 = some c :=
                                                                                                    fun y hy e => by
    rcases ok.free y hy e
                                                                                                    with k | k
    · exact I.ok.has _ (.inl k)
    · exact I.ok.has _ (.inr k)
  refine wpAny_GeneratorExp_make ok.co (closure_ok hfree) ok.cell ok.dot ok.kind (by have := hr.r.dp; omega) ?_ hs
  refine thn (hi.run pins s σ H (fun J H2 => ∃ st1 xs, WalkD W q H2 J xs ∧ Fin W q E PP (bnd (nox (quM al (quF Γ g q.ρ ce) xs)) ff st1) H2 ∧ Grow q.Z H H2 ∧ Wld W q.Z st1 H2) I ⟨q, st, h.left, f.split fun px st1 _ H1 g1 w1 f1 J wa => ⟨st1, px.2, wa.self, f1, g1, w1⟩⟩) fun xv s1 hx => thn hx fun itv s2 h2 => ?_
  obtain ⟨it, fp, tn, J, H2, e, I2, T, st2, f2, st1, xs, wd, f1, g1, w1⟩ := h2
  subst e
  refine ⟨I2.nolimit, ?_⟩
  obtain ⟨ps, hPs, ht⟩ := w1.t P hP
  have hPo : s2.heap.get? P = some { cls := .none, data := .fields ps } := I2.hok P _ hPs
  have cd : PySem.W.CodeHd s2.heap c P := TB.code.keeps fun b u e => I2.bk b u e
  have cont : ∀ (code : Value) (h3 : Heap) (tk : Nat) (more : Array Value), Heap.ExtBut P s2.heap h3 → h3.get? P = some { cls := .none, data := .fields (ps ++ more) } → TriplesOk (ps ++ more).toList →
      wpAny (model X.prog X.w) X.A (builtinsFor X.env.globals X.env.builtins) (fun bi s₄ => ∀ h', h'.Ns s₄.heap.objs.size (fun y => if y = (".0" : Str) then some (Value.ref it) else none) → Heap.SameBut s₄.heap.objs.size (s₄.heap.push { cls := .type "frame", data := .dict #[] }) h' →
        Q' (.ref h'.objs.size) { s₄ with
            gens := s₄.gens.push (.fresh (.compStart (.GeneratorExp elt [⟨tg, iter, [], 0⟩] scope gpos) 0 (.ref it) .none (genEnv scope (cloFrom X.env.cells scope.names []) s₄.heap.objs.size code bi X.env))),
            toks := s₄.toks + 1 + 1 + 1,
            heap := h'.push { cls := .type "generator", data := .fields #[.int s₄.gens.size 0, .str "<genexpr>" (s₄.toks + 1), .str (X.env.qual ++ "<genexpr>") (s₄.toks + 1 + 1)] } }) X.xe { s2 with heap := h3, toks := tk } := by
    intro code h3 tk more hx hP3 ht3
    have I3 : Inv X pins σ (upd H2 P (.tbl (ps ++ more))) { s2 with heap := h3, toks := tk } := GxR.inv_tab (d' := s2.drawn) I2 hPs (fun b u hb e => hx b u hb e) hP3 I2.bare
    obtain ⟨bm, ob, e1, e2, e3, e4, e5, e6, e7, e8⟩ :=
                                                                                                    TB.bm
    refine wpAny_builtinsFor (m := X.mg) (by rw [I.ok.glob]; exact I3.mod.glob.keeps I3.bk) e1 e2 (hx bm ob e4 (I2.bk _ _ e5)) e6 e7 e8 ?_
    intro h' hn' hs'
    generalize hs4 : ({ s2 with heap := h3, toks := tk } : Shared) = s4 at I3 hn' hs' ⊢
    have hsz : h'.objs.size = s4.heap.objs.size + 1 := by rw [hs'.1, Heap.size_push]
    have keep' : ∀ b o, s4.heap.get? b = some o → h'.get? b = some o := fun b o e => hs'.extBut b o (Nat.ne_of_lt (Heap.lt_size e)) (Heap.get?_push_of_some _ e)
    generalize hgo : ({ cls := .type "generator", data := .fields #[.int s4.gens.size 0, .str "<genexpr>" (s4.toks + 1), .str (X.env.qual ++ "<genexpr>") (s4.toks + 1 + 1)] } : Obj) = gobj
    have nP : ∀ b ∈ fp, b ≠ P := fun b hb z => by
      have := (f2 b hb).1
      rw [z, hPs] at this
      cases this
    have sz2 : ∀ b ∈ fp, ∃ o, s2.heap.get? b = some o := fun b hb => let ⟨o, e, _⟩ := T.obj _ _ st2 b hb; ⟨o, e⟩
    have h34 : s4.heap = h3 := by rw [← hs4]
    have f3 : ∀ b ∈ fp, FpOk X pins (upd H2 P (.tbl (ps ++ more))) b ∧ b < s4.heap.objs.size := fun b hb => by
      obtain ⟨o, e⟩ := sz2 b hb
      exact ⟨⟨by rw [upd_ne (nP b hb)]; exact (f2 b hb).1, (f2 b hb).2⟩, by rw [h34]; exact Heap.lt_size (hx b o (nP b hb) e)⟩
    have st4 : tn 0 s4.heap := by
      rw [h34]
      exact T.keep _ _ _ st2 fun b hb o e => hx b o (nP b hb) e
    have hI3 : s4.os = s2.os := by rw [← hs4]
    have hgd : gobj.data = .fields #[.int s4.gens.size 0, .str "<genexpr>" (s4.toks + 1), .str (X.env.qual ++ "<genexpr>") (s4.toks + 1 + 1)] := by rw [← hgo]
    have hgc : gobj.cls = .type "generator" := by rw [← hgo]
    have hget : (h'.push gobj).get? h'.objs.size = some gobj := Heap.get?_push_size _ (by rw [← hgo]; rfl)
    have keep5 : ∀ b o, s4.heap.get? b = some o → (h'.push gobj).get? b = some o := fun b o e => Heap.get?_push_of_some _ (keep' b o e)
    have g24 : Grow q.Z H2 (upd H2 P (.tbl (ps ++ more))) := grow_tab hPs
    have w4 := wld_tab w1 hPl hPs ht3
    have hA : X.A.in1.in1.handled = none := hr.r.hd
    have hbare : AllBare (s4.gens.push (GenState.fresh (.compStart (.GeneratorExp elt [⟨tg, iter, [], 0⟩] scope gpos) 0 (.ref it) .none (genEnv scope (cloFrom X.env.cells scope.names []) s4.heap.objs.size code builtinsNs X.env)))) := I3.bare.push rfl
    have start := gen_start (A := X.A.in1.in1) (code := code) (itv := .ref it) (a := h'.objs.size) (gobj := gobj) (tk := s4.toks + 1 + 1 + 1) (d' := s4.drawn) I3 ok hN f3 hA (show X.A.in1.in1.frames = some X.stack from I.ok.frames) (hn'.push gobj) keep5 (by omega) hget (fun v z => by rw [hgd] at z; cases z) hbare
    have G : GBody (β := β) ⟨W, Γ, q, E, PP, al, ff, g, ce, xs, H2, h'.objs.size, gobj, wipe σ (own.map (·.2)), fp, tn⟩ X X.A.in1.in1 s4 (upd H2 P (.tbl (ps ++ more))) scope own s4.heap.objs.size it code elt tg J _ st1 σ :=
      ⟨fun b hb z => by
        have z1 := (f3 b hb).2
        have z2 : (h'.objs.size : Nat) < s4.heap.objs.size := (show h'.objs.size = b from z) ▸ z1
        omega, hA, rfl, ho, T, wd, h.grow g1 w1, fun i hi' => by
        by_cases hg' : i ∈ slotsG g
        · exact .inl hg'
        · exact .inr (by simp [hi', hg']), ok.co, hg _ _ _ _ _, he _ _ _ _ _⟩
    refine hQ ⟨W, Γ, q, E, PP, al, ff, g, ce, xs, H2, h'.objs.size, gobj, wipe σ (own.map (·.2)), fp, tn⟩ _ _ rfl rfl rfl rfl rfl rfl g1 ⟨rfl, gCx X X.A.in1.in1 s4 (upd H2 P (.tbl (ps ++ more))) scope s4.heap.objs.size code fp, s4.gens.size, xs.length,
      ⟨⟨gobj, _, _, hget, hgc, hgd, by rw [← hgo]⟩, start.nolimit, by simp, hbare, _, Array.getElem?_push_size .., fun s'' h1 h2 h3 => ⟨rfl, seg_start G s'' s'' ⟨st1, _, inv_same start h1 h2 h3, ?_, fun b hb => (f3 b hb).1.1, g24, w4, show Fin W q E PP (bnd (nox (quM al (quF Γ g q.ρ ce) (xs.drop 0))) ff st1) H2 from by rw [List.drop_zero]; exact f1⟩⟩⟩,
      fun s H I => ⟨gobj, _, _, (I.pin (h'.objs.size, gobj) (by simp)).1, hgc, hgd, by rw [← hgo]⟩, fun H' sa sb ha I1 k1 e1 e2 e3 => ?_⟩
    · rw [h1]
      exact T.keep _ _ _ st4 fun b hb o e => keep5 b o e
    · have I7 : Inv X pins σ H' sa := I3.call' (ch := fp) I1.os I1.base I1.hok I1.bare fun b hb => ⟨(f3 b hb).1.2.2.2.1, (f3 b hb).1.2.1, (f3 b hb).1.2.2.2.2.1, (f3 b hb).1.2.2.2.2.2⟩
      exact inv_same (I7.kept (t' := sa.toks) k1) e1 e2 e3
  cases hf : codeAmong
                                                                                                    gpos ps.toList with
  | none =>
    refine wpAny_genexprCodeX hcode (cd.code hPo ht) (cd.tab hPo) hf fun c' h' tk hx hge hlt hco' _ htab' _ => ?_
    obtain ⟨o1, vs, f1', tf, fl, tg', inF, tx, tt, op, _, _, _, _, _, _, _, _, _, htr, _⟩ := hco'
    exact cont _ h' tk _ hx htab'.2 htr
  | some cv =>
    refine wpAny_genexprCode_hit hcode (cd.code hPo ht) hf ?_
    exact cont cv s2.heap s2.toks #[] (Heap.ExtBut.refl _ _) (by simpa using hPo) (by simpa using ht)
theorem bnd_id {α : Type} (m : M α) : bnd m (fun b => ret b) = m := by
  funext s
  unfold bnd
  cases m s <;> rfl
/-- what is wanted behind the walk -/
theorem g_end {p : GP β} {pins : List (Addr × Obj)} {σ : L2.St} {a : Addr} {s5 : Shared} (G : GReady p X pins σ a s5) : ∃ (XG : Cx) (gi m : Nat), GWait p X XG X.A.in1.in1 gi m s5 ∧ (∀ s H, Inv XG [(p.a, p.gobj)] p.σ H s → s.heap.IsGen p.a gi) ∧
    (∀ i b s1 s2, b ≠ p.al → p.mid XG i b s1 → s2.heap = s1.heap → s2.os = s1.os → AllBare s2.gens → ∃ st H', Inv X pins σ H' s2 ∧ Grow p.q.Z p.H1 H' ∧ Wld p.W p.q.Z st H' ∧ Fin p.W p.q p.E p.P (p.f (!p.al) st) p.H1) ∧
    (∀ s1 h' s2, p.fin XG s1 → (∀ b o, s1.heap.get? b = some o → h'.get? b = some o) → s2.heap = h' → s2.os = s1.os → AllBare s2.gens → ∃ st H', Inv X pins σ H' s2 ∧ Grow p.q.Z p.H1 H' ∧ Wld p.W p.q.Z st H' ∧ Fin p.W p.q p.E p.P (p.f p.al st) p.H1) := by
  obtain ⟨XG, gi, m, w, hI, back⟩ := G.ex
  refine ⟨XG, gi, m, w, hI, fun i b s1 s2 hb hm h1 h2 h3 => ?_, fun s1 h' s2 hf k1 h1 h2 h3 => ?_⟩
  · obtain ⟨st, H', I1, _, _, gr, w1, f1⟩ := hm
    rw [if_neg hb] at f1
    exact ⟨st, H', back H' s1 s2 s1.heap I1 (fun _ _ e => e) h1 h2 h3, gr, w1, f1⟩
  · obtain ⟨st, H', I1, gr, w1, f1⟩ := hf
    exact ⟨st, H', back H' s1 s2 h' I1 k1 h1 h2 h3, gr, w1, f1⟩
/-- all of it: the answer -/
theorem call_all {p : GP β} {pins : List (Addr × Obj)} {σ : L2.St} {a : Addr} {s5 : Shared} {Q : Value → Shared → Prop} {EE : Value → Shared → Prop} (hr : RoomG (kk + 1) X.A) (hal : p.al = true) (G : GReady p X pins σ a s5)
    (hQ : ∀ b st H' s2, Inv X pins σ H' s2 → Grow p.q.Z p.H1 H' → Wld p.W p.q.Z st H' → Fin p.W p.q p.E p.P (p.f b st) p.H1 → Q (.bool b) s2) : wpAny (model X.prog X.w) X.A (call (.builtin "all") [.ref a]) Q EE s5 := by
  obtain ⟨XG, gi, m, w, hI, q1, q2⟩ := g_end G
  rw [← G.ad]
  refine call_function_tree PySem.F.kind_all PySem.F.plain_all PySem.F.entry_all (PySem.F.args_all1 _) ?_
  unfold Builtin.«all»
  refine wpAny_bind
                                                                                                    (m := oneArg "all" _) (wpAny_pure ?_)
  refine wpAny_bind (wpAny_pyIter_gen w.1 ?_)
  refine wpAny_pure ⟨plainId_quiet PySem.F.plain_all_loop _, all_loop hal hr.r.hd (by have := hr.r.dp; omega) hI (fun i s1 s2 hm h1 h2 h3 => ?_) (fun s1 h' s2 hf k1 h1 h2 h3 => ?_) m s5 w⟩
  · obtain ⟨st, H', I1, gr, w1, f1⟩ := q1 i false s1 s2 (by rw [hal]; decide) hm h1 h2 h3
    rw [hal] at f1
    exact hQ false st H' s2 I1 gr w1 f1
  · obtain ⟨st, H', I1, gr, w1, f1⟩ := q2 s1 h' s2 hf k1 h1 h2 h3
    rw [hal] at f1
    exact hQ true st H' s2 I1 gr w1 f1
theorem call_any {p : GP β} {pins : List (Addr × Obj)} {σ : L2.St} {a : Addr} {s5 : Shared} {Q : Value → Shared → Prop} {EE : Value → Shared → Prop} (hr : RoomG (kk + 1) X.A) (hal : p.al = false) (G : GReady p X pins σ a s5)
    (hQ : ∀ b st H' s2, Inv X pins σ H' s2 → Grow p.q.Z p.H1 H' → Wld p.W p.q.Z st H' → Fin p.W p.q p.E p.P (p.f b st) p.H1 → Q (.bool b) s2) : wpAny (model X.prog X.w) X.A (call (.builtin "any") [.ref a]) Q EE s5 := by
  obtain ⟨XG, gi, m, w, hI, q1, q2⟩ := g_end G
  rw [← G.ad]
  refine call_function_tree PySem.F.kind_any PySem.F.plain_any PySem.F.entry_any (PySem.F.args_any1 _) ?_
  unfold Builtin.«any»
  refine wpAny_bind
                                                                                                    (m := oneArg "any" _) (wpAny_pure ?_)
  refine wpAny_bind (wpAny_pyIter_gen w.1 ?_)
  refine wpAny_pure ⟨plainId_quiet PySem.F.plain_any_loop _, any_loop hal hr.r.hd (by have := hr.r.dp; omega) hI (fun i s1 s2 hm h1 h2 h3 => ?_) (fun s1 h' s2 hf k1 h1 h2 h3 => ?_) m s5 w⟩
  · obtain ⟨st, H', I1, gr, w1, f1⟩ := q1 i true s1 s2 (by rw [hal]; decide) hm h1 h2 h3
    rw [hal] at f1
    exact hQ true st H' s2 I1 gr w1 f1
  · obtain ⟨st, H', I1, gr, w1, f1⟩ := q2 s1 h' s2 hf k1 h1 h2 h3
    rw [hal] at f1
    exact hQ false st H' s2 I1 gr w1 f1
end
section
variable {X : Cx} {W : Wp} {Γ : Gam} {E : XK} {elt tg iter : Expr} {scope : Scope} {own : List (Str × Nat)} {gpos pos p0 : Pos} {g : G} {k : IK} {its : List T} {ce : T} {c P : Addr} {kk : Nat} {x : Str}
/-- what the rules of all, any ask of the context -/
structure GenR (X : Cx) (W : Wp) (Γ : Gam) (E : XK) (kk : Nat) (c P : Addr) (elt tg iter : Expr) (scope : Scope) (own : List (Str × Nat)) (g : G) (k : IK) (its : List T) (ce : T) : Prop where
  hc : X.calm = true
  hN : X.N.Nodup
  hr : RoomG (kk + 1) X.A
  TB : LamX.TabB X.base X.mg c P
  hcode : X.env.code = .ref c
  hP : P ∈ W.tabs
  hPl : ∀ p ∈ W.ltabs, p.1 ≠ P
  ok : GenOk X.N X.env.scope scope own
  ho : own.map (·.2) = slotsG g
  hi : PI X tg iter (iX W Γ k its E)
  hs : ∀ x, genFold iter X.env x = pure x
  hg : ∀ (s : Shared) (H : Hp) (C : Addr) (code : Value) (fp : List Addr), PG (gCx X X.A.in1.in1 s H scope C code fp) tg (tG W g)
  he : ∀ (s : Shared) (H : Hp) (C : Addr) (code : Value) (fp : List Addr), PE (gCx X X.A.in1.in1 s H scope C code fp) elt (tE W Γ ce E0)
theorem r_qu {al : Bool} {id : String} (R : GenR X W Γ E kk c P elt tg iter scope own g k its ce) (hid : id = if al then "all" else "any") (hg : Gl X x) (hm : X.mg x = none) (hv : bootBuiltins x = some (.builtin id)) (hn : x ≠ "__name__") (hdb : (x == ("__debug__" : Str)) = false) :
    PE X (.Call (.Name x p0) [.GeneratorExp elt [⟨tg, iter, [], 0⟩] scope gpos] [] pos) (tE W Γ (.aal al g k its ce) E) := by
  refine ⟨fun pins s σ H Q I ⟨q, st, h, f⟩ => ?_⟩
  refine wpAny_Call_Name_kw
                                                                                                    (ld_blt I hg hm hv ?_ hn hdb)
  refine PyProof.Rows.callWith_builtin1 ?_ (by rfl) (by rfl)
  show wpAny _ _ (spliced ((false, eval (.GeneratorExp elt [⟨tg, iter, [], 0⟩] scope gpos) X.env) :: backTo pos (starEach [] X.env))) _ _ s
  refine Calls.spliced_cons (gen_make (al := al) (ff := fun b => ret (D.bl b)) (PP := PD W q H false Q) R.hc R.hN R.hr R.TB R.hcode R.hP R.hPl R.ok R.ho R.hi R.hs R.hg R.he I h (itM_fin (f := fun xs => bnd (nox (quM al (quF Γ g q.ρ ce) xs)) fun b => ret (D.bl b)) f) fun p a s5 e1 e2 e3 e4 e5 e6 g1 G => ?_)
  refine Calls.spliced_nil ?_
  have fin : ∀ b st H' s2, Inv X pins σ H' s2 → Grow p.q.Z p.H1 H' → Wld p.W p.q.Z st H' → Fin p.W p.q p.E p.P (p.f b st) p.H1 → EP X pins σ Q (.bool b) s2 := fun b st' H' s2 I2 gr w fb => by
    rw [e6, e5, e4, e3, e2] at fb
    rw [e3] at gr
    rw [e2, e3] at w
    exact ⟨.bl b, H', I2, rfl, fb.ret gr w _ (.nl rfl rfl)⟩
  subst hid
  cases al with
  | true => exact call_all R.hr e1 G fin
  | false => exact call_any R.hr e1 G fin
theorem rt_qu {al : Bool} {id : String} (R : GenR X W Γ E kk c P elt tg iter scope own g k its ce) (hid : id = if al then "all" else "any") (hg : Gl X x) (hm : X.mg x = none) (hv : bootBuiltins x = some (.builtin id)) (hn : x ≠ "__name__") (hdb : (x == ("__debug__" : Str)) = false) :
    PT X (.Call (.Name x p0) [.GeneratorExp elt [⟨tg, iter, [], 0⟩] scope gpos] [] pos) (tT W Γ (.aal al g k its ce) E) :=
  rt_truth (fun ρ => by simp [tst, ev, truthD, bnd_id]) (r_qu R hid hg hm hv hn hdb) fun _ => rfl
end
end Mp
end
section
/-! Mp: closures. -/
namespace Mp
open PySem PySem.Spec
                                                                                                    PyProof.Rows L2

/-! ### known objects come and go -/
/-- at each of C a known object -/
def Kn (C : List Addr) (H : Hp) : Prop := ∀ b ∈ C, ∃ o, H b = some (KnO o)
/-- the known objects at C back -/
def back (C : List Addr) (H H2 : Hp) : Hp := fun b => if b ∈ C then H b else H2 b
section
variable {P : Program} {w : PySem.World} {C fs : List Addr} {H H2 : Hp} {h h' : Heap}
theorem Kn.no (n : Kn C H) {b : Addr} {u : HO} (e : H b = some u) (hu : ∀ o, u ≠ KnO o) : b ∉ C := fun hb => by
  obtain ⟨o, e'⟩ := n b hb
  exact hu o (Option.some.inj (e.symm.trans e'))
theorem hid_none {b : Addr} (hb : b ∈ C) : hid C H b = none := if_pos hb
theorem hid_out {b : Addr} (hb : b ∉ C) : hid C H b = H b := if_neg hb
theorem kn_obj (ok : HOk P w H h) (n : Kn C H) {b : Addr} (hb : b ∈ C) : ∃ o, H b = some (KnO o) ∧ h.get? b = some o := by
  obtain ⟨o, e⟩ := n b hb
  exact ⟨o, e, (ok b _ e).1⟩
theorem hok_hid (ok : HOk P w H h) (n : Kn C H) : HOk P w (hid C H) h := fun b u e => by
  obtain ⟨hb, e⟩ := hid_some e
  exact (ok b u e).stay (fun _ _ _ e => e) (fun c e => hid_of (n.no e fun o z => by cases z) e) fun c xs e => hid_of (n.no e fun o z => by cases z) e
theorem un_drop (u : Un fs [] H H2 h h') (ok : HOk P w H h) (ok2 : HOk P w H2 h') (n : Kn C H) : Un fs [] (hid C H) (hid C H2) h h' := by
  have kept : ∀ b ∈ C, ∀ o, h.get? b = some o → h'.get? b = some o := fun b hb o e => by
    obtain ⟨o', e1, e2⟩ := kn_obj ok n hb
    rw [e2] at e
    cases e
    exact (ok2 b _ (u.frzs b _ _ e1)).1
  refine ⟨fun b o e hn hf hx => ?_, fun b o e hn hf hx => ?_, fun b o e hn hx => ?_, u.there, fun b xs e => ?_, fun b o v e => ?_, fun b ps e => ?_⟩
  · by_cases hb : b ∈ C
    · exact kept b hb o e
    · rw [hid_out hb] at hn
      exact u.keep b o e hn hf hx
  · by_cases hb : b ∈ C
    · exact ⟨o.slots, kept b hb o e⟩
    · rw [hid_out hb] at hn
      exact u.slot b o e hn hf hx
  · by_cases hb : b ∈ C
    · exact hid_none hb
    · rw [hid_out hb] at hn ⊢
      exact u.free b o e hn hx
  · obtain ⟨hb, e⟩ := hid_some e
    rw [hid_out hb]
    exact u.tups b xs e
  · obtain ⟨hb, e⟩ := hid_some e
    rw [hid_out hb]
    exact u.frzs b o v e
  · obtain ⟨hb, e⟩ := hid_some e
    rw [hid_out hb]
    exact u.tbls b ps e
theorem kn_back (ok : HOk P w H h) (n : Kn C H) (u : Un fs [] (hid C H) H2 h h') : ∀ b ∈ C, H2 b = none := fun b hb => by
  obtain ⟨o, e1, e2⟩ := kn_obj ok n hb
  exact u.free b o e2 (hid_none hb) (by simp)
theorem un_add (u : Un fs [] (hid C H) H2 h h') (n : Kn C H) : Un fs [] H (back C H H2) h h' := by
  have nb : ∀ {b : Addr}, H b = none → b ∉ C := fun {b} e hb => by
    obtain ⟨o, e'⟩ := n b hb
    rw [e] at e'
    cases e'
  refine ⟨fun b o e hn hf hx => u.keep b o e (by rw [hid_out (nb hn)]; exact hn) hf hx, fun b o e hn hf hx => u.slot b o e (by rw [hid_out (nb hn)]; exact hn) hf hx, fun b o e hn hx => ?_, u.there, fun b xs e => ?_, fun b o v e => ?_, fun b ps e => ?_⟩
  · unfold back
    rw [if_neg (nb hn)]
    exact u.free b o e (by rw [hid_out (nb hn)]; exact hn) hx
  · have hb := n.no e fun o z => by cases z
    unfold back
    rw [if_neg hb]
    exact u.tups b xs (hid_of hb e)
  · unfold back
    by_cases hb : b ∈ C
    · rw [if_pos hb]
      exact e
    · rw [if_neg hb]
      exact u.frzs b o v (hid_of hb e)
  · have hb := n.no e fun o z => by cases z
    unfold back
    rw [if_neg hb]
    exact u.tbls b ps (hid_of hb e)
theorem hok_add (ok : HOk P w H h) (n : Kn C H) (u : Un fs [] (hid C H) H2 h h') (ok2 : HOk P w H2 h') (hf : ∀ b ∈ fs, H b = none) : HOk P w (back C H H2) h' := fun b v e => by
  have n2 := kn_back ok n u
  unfold back at e
  by_cases hb : b ∈ C
  · rw [if_pos hb] at e
    obtain ⟨o, e1, e2⟩ := kn_obj ok n hb
    have eo := Option.some.inj (e.symm.trans e1)
    subst eo
    have hk := u.keep b o e2 (hid_none hb) (fun z => by rw [hf b z] at e1; cases e1) (by simp)
    exact ⟨hk, trivial, ⟨o, hk⟩, fun _ _ _ _ => trivial⟩
  · rw [if_neg hb] at e
    have ne : ∀ {c : Addr} {x : HO}, H2 c = some x → back C H H2 c = some x := fun {c x} e => by
      unfold back
      rw [if_neg fun z => by rw [n2 c z] at e; cases e]
      exact e
    exact (ok2 b v e).stay (fun _ _ _ e => e) (fun c e => ne e) fun c xs e => ne e
end
/-! ### data without closures -/
section
variable {W : Wp} {Z : Zp} {F F' : Hp}
mutual
theorem Rep.noC (l : ∀ a o, F a = some o → (∀ x, o ≠ KnO x) → (∀ ps, o ≠ .tbl ps) → F' a = some o) : ∀ (d : D) (v : V), Mp.noC d = true → Rep W Z F d v → Rep W Z F' d v
  | .non, _, _, h => h
  | .bl _, _, _, h => h
  | .int _, _, _, h => h
  | .str _, _, _, h => h
  | .tup xs, v, m, h => by
    obtain ⟨a, vs, e, h1, h2⟩ := h
    exact ⟨a, vs, e, l a _ h1 (fun x z => by cases z) (fun x z => by cases z), Reps.noC l xs vs (by simpa [Mp.noC] using m) h2⟩
  | .lst xs, v, m, h => by
    obtain ⟨a, vs, e, h1, h2⟩ := h
    exact ⟨a, vs, e, l a _ h1 (fun x z => by cases z) (fun x z => by cases z), Reps.noC l xs vs (by simpa [Mp.noC] using m) h2⟩
  | .st, _, _, h => h
  | .gl _, _, _, h => h
  | .dic ks xs, v, m, h => by
    obtain ⟨a, vs, e, h1, h2, h3⟩ := h
    exact ⟨a, vs, e, l a _ h1 (fun x z => by cases z) (fun x z => by cases z), h2, Reps.noC l xs vs (by simpa [Mp.noC] using m) h3⟩
  | .clo _ _, _, m, _ => by simp [Mp.noC] at m
theorem Reps.noC (l : ∀ a o, F a = some o → (∀ x, o ≠ KnO x) → (∀ ps, o ≠ .tbl ps) → F' a = some o) : ∀ (ds : List D) (vs : List V), noCs ds = true → Reps W Z F ds vs → Reps W Z F' ds vs
  | [], _, _, h => h
  | d :: ds, vs, m, h => by
    obtain ⟨v, r, e, h1, h2⟩ := h
    have m' : Mp.noC d = true ∧ noCs ds = true := by simpa [noCs] using m
    exact ⟨v, r, e, Rep.noC l d v m'.1 h1, Reps.noC l ds r m'.2 h2⟩
end
end
section
variable {W : Wp} {q : Sit} {st : S} {C : List Addr} {H H2 : Hp}
theorem kn_le (n : Kn C H) (B : List Addr) : ∀ a o, hid B H a = some o → (∀ x, o ≠ KnO x) → (∀ ps, o ≠ .tbl ps) → hid B (hid C H) a = some o := fun a o e hk _ => by
  obtain ⟨hb, e⟩ := hid_some e
  exact hid_of hb (hid_of (n.no e hk) e)
theorem wld_hid (w : Wld W q.Z st H) (n : Kn C H) : Wld W q.Z st (hid C H) := by
  have k : ∀ {a : Addr} {o : HO}, H a = some o → (∀ x, o ≠ KnO x) → hid C H a = some o := fun e hk => hid_of (n.no e hk) e
  refine ⟨k w.s (fun x z => by cases z), k w.c (fun x z => by cases z), k w.l (fun x z => by cases z), w.len, w.pos, w.few, w.at0, fun P hP => ?_, fun p hp => ?_⟩
  · obtain ⟨ps, e1, e2⟩ := w.t P hP
    exact ⟨ps, k e1 (fun x z => by cases z), e2⟩
  · obtain ⟨ps, e1, e2, e3⟩ := w.lt p hp
    refine ⟨ps, k e1 (fun x z => by cases z), e2, fun pos cv hc => ?_⟩
    obtain ⟨c, g1, g2⟩ := e3 pos cv hc
    exact ⟨c, g1, k g2 (fun x z => by unfold LamX.CodeO at z; cases z)⟩
theorem s0_hid (s : Sit0 W q st H) (n : Kn C H) : Sit0 W q st (hid C H) := ⟨s.sS, s.sL, wld_hid s.w n, fun a ha => by
  rcases s.hB a ha with ⟨xs, e⟩ | ⟨xs, e⟩
  · exact .inl ⟨xs, hid_of (n.no e fun x z => by cases z) e⟩
  · exact .inr ⟨xs, hid_of (n.no e fun x z => by cases z) e⟩⟩
theorem grow_hid {Z : Zp} (g : Grow Z H H2) : Grow Z (hid C H) (hid C H2) :=
  ⟨fun a o e h1 h2 h3 => by
    obtain ⟨hb, e⟩ := hid_some e
    exact hid_of hb (g.keep a o e h1 h2 h3), fun a e z => by
    by_cases hb : a ∈ C
    · exact e (hid_none hb)
    · rw [hid_out hb] at e z
      exact g.there a e z⟩
theorem kn_grow (s : Sit0 W q st H) (n : Kn C H) (g : Grow q.Z H H2) : Kn C H2 := fun b hb => by
  obtain ⟨o, e⟩ := n b hb
  refine ⟨o, g.keep b _ e (fun z => ?_) (fun z => ?_) fun ps z => by cases z⟩
  · rw [z, s.w.s] at e
    cases e
  · rw [z, s.w.l] at e
    cases e
theorem back_of (n : ∀ b ∈ C, H2 b = none) {a : Addr} {o : HO} (e : H2 a = some o) : back C H H2 a = some o := by
  unfold back
  rw [if_neg fun z => by rw [n a z] at e; cases e]
  exact e
theorem wld_back (n : ∀ b ∈ C, H2 b = none) (w : Wld W q.Z st H2) : Wld W q.Z st (back C H H2) := by
  refine ⟨back_of n w.s, back_of n w.c, back_of n w.l, w.len, w.pos, w.few, w.at0, fun P hP => ?_, w.lt.ext fun a o e => back_of n e⟩
  obtain ⟨ps, e1, e2⟩ := w.t P hP
  exact ⟨ps, back_of n e1, e2⟩
theorem grow_back {Z : Zp} (nk : Kn C H) (g : Grow Z (hid C H) H2) : Grow Z H (back C H H2) :=
  ⟨fun a o e h1 h2 h3 => by
    unfold back
    by_cases hb : a ∈ C
    · rw [if_pos hb]; exact e
    · rw [if_neg hb]
      exact g.keep a o (hid_of hb e) h1 h2 h3, fun a e z => by
    unfold back at z
    by_cases hb : a ∈ C
    · rw [if_pos hb] at z
      exact e z
    · rw [if_neg hb] at z
      exact g.there a (by rw [hid_out hb]; exact e) z⟩
end
/-! ### the promise of a closure -/
structure LamOk (P : Program) (w : PySem.World) (K : PySem.W.Frag) (mg : Str → Option Value) (base : Heap) (CX : CXT) (k : Nat) (W : Wp) (Γ : Gam) (lx : Str) : Prop where
  run : ∀ (A : Around) (outer : List PySem.Env) (s : Shared) (H : Hp) (f : Addr) (us : List Value) (vs : List V) (Q : VK) (E : XK) (q : Sit) (st : S) (ds cs : List D), RoomG k A → Env0 P w K mg base A outer s H → Vals vs us → Sit0 W q st H → Reps W q.Z (hid q.B H) ds vs → noCs ds = true →
    Rep W q.Z (hid q.B H) (.clo lx cs) (.ref f) → noCs cs = true → Fin W q E (fun d H' => ∀ v, Rep W q.Z (hid q.B H') d v → Q v H') (Γ lx (ds ++ cs) st) H → codeAny (model P w) A (.call (.ref f) ⟨us, []⟩) (CR CX outer P w H s Q E) s
section
variable {X : Cx} {CX : CXT} {k : Nat} {W : Wp} {Γ : Gam} {E : XK} {x : Str} {e : Expr} {es : List Expr} {ts : List T} {p pos : Pos} {i : Nat}
/-- a closure's function object -/
theorem clo_fn {q : Sit} {pins : List (Addr × Obj)} {σ : L2.St} {H : Hp} {s : Shared} {lx : Str} {cs : List D} {v : V} (I : Inv X pins σ H s) (r : Rep W q.Z (hid q.B H) (.clo lx cs) v) : ∃ f, v = .ref f ∧ PySem.W.FnAt f s.heap := by
  obtain ⟨L, f, cl, c', vs, _, e2, h1, _⟩ := r
  obtain ⟨pm, ctv, e⟩ := h1.fn
  have := (I.hok f _ (hid_some e).2).1
  exact ⟨f, e2, _, _, _, _, this⟩
theorem r_callv (HL : ∀ lx, LamOk X.prog X.w X.K X.mg X.base CX k W Γ lx) (hr : RoomG k X.A) (hx : Passes CX X E) (hN : X.N[i]? = some x) (hv : Vis X.env.scope x) (hd : (x == ("__debug__" : Str)) = false) (hcd : (x == ("__classdict__" : Str)) = false)
    (ha : PA X (e :: es) (tA W Γ ts E)) (hs : noStar (e :: es) = true) : PE X (.Call (.Name x p) (e :: es) [] pos) (tE W Γ (.callv i ts) E) := by
  refine ⟨fun pins s σ H Q I ⟨q, st, h, f⟩ => ?_⟩
  obtain ⟨⟨lx, cs⟩, ef, f⟩ := Fin.ofO f
  obtain ⟨fd, ef, ec⟩ := Option.bind_eq_some_iff.mp ef
  have ed : fd = .clo lx cs := by
    cases fd <;> simp only [cloD] at ec <;> first | (cases ec; done) | (cases ec; rfl)
  subst ed
  obtain ⟨v0, hv0, rv0⟩ := h.see i (by simp [vars]) _ ef
  refine wpAny_Call_Name_kw (thn ((pe_var (pos := p) hN hv hd hcd).run pins s σ H (fun v H1 => v = v0 ∧ H1 = H) I ⟨v0, hv0, rfl, rfl⟩) fun u s1 ⟨v, H1, I1, r1, ev, eH⟩ => ?_)
  subst ev eH
  · obtain ⟨f0, rfl, hfn⟩ := clo_fn I1 rv0
    obtain rfl : u = Value.ref f0 := r1
    obtain ⟨s1e, s2e⟩ := star_one (env := X.env) hs
    have h' : At W q st (varss ts) σ H1 := h.sub fun j hj => by simp [vars, hj]
    have ask : tA W Γ ts E σ H1 fun vs H2 => ∃ st' ds, At W q st' (varss ts) σ H2 ∧ Grow q.Z H1 H2 ∧ Reps W q.Z (hid q.B H2) ds vs ∧ noCs ds = true ∧ noCs cs = true ∧ Fin W q E (PD W q H1 false Q) (Γ lx (ds ++ cs) st') H2 :=
      many h' f fun ds st' H2 xs a' g r f' => by
        by_cases hc : (noCs ds && noCs cs) = true
        · dsimp only at f'
          rw [if_pos hc] at f'
          simp only [Bool.and_eq_true]
                                                                                                    at hc
          exact ⟨st', ds, a', g, r, hc.1, hc.2, f'⟩
        · dsimp only at f'
          rw [if_neg hc] at f'
          exact f'.elim
    refine PySem.W.callWith_F hfn (thn (ha.run pos pins s1 σ H1 _ I1 ask) fun us s2 ⟨vs, H2, I2, r2, st', ds, a', g, rd, n1, n2, f'⟩ => ?_) s1e (star_any s2e)
    have rv2 := Rep.mono (g.le h.sS h.sL) _ _ rv0
    obtain ⟨f1, e1, hfn2⟩ := clo_fn I2 rv2
    cases e1
    refine ⟨hfn2, ?_⟩
    refine wpAny_call (codeAny_mono ((HL lx).run X.A X.stack s2 H2 f0 us vs Q E q st' ds cs hr I2.env0 r2 a'.s0 rd n1 rv2 n2 ?_) fun res s' hq => ?_)
    · cases e9 : Γ lx (ds ++ cs) st' with
      | ok d s9 =>
        rw [e9] at f'
        exact fun H3 g3 w3 v r => f' H3 g3 w3 v (.of r)
      | exc y s9 =>
        rw [e9] at f'
        exact f'
      | no =>
        rw [e9] at f'
        exact f'
    · cases res with
      | error e => exact hx pins σ H2 s2 e s' I2 hq
      | ok fl =>
        cases fl with
        | ret u => exact I2.after hq
        | next => exact False.elim hq
        | brk => exact False.elim hq
        | cont => exact False.elim hq
end
end Mp
end
section
/-! Mp: a closure's body. -/
namespace Mp
open PySem PySem.Spec
                                                                                                    PyProof.Rows L2

/-! ### the slots at the entry -/
theorem initE_len {n : Nat} {ds : List D} (h : ds.length ≤ n) : (initE n ds).length = n := by
  unfold initE
  simp
  omega
theorem initE_get {n : Nat} {ds : List D} {i : Nat} {d : D} (h : getE (initE n ds) i = some d) : ds[i]? = some d := by
  unfold getE initE at h
  by_cases hi : i < ds.length
  · rw [List.getElem?_append_left (by simpa using hi), List.getElem?_map] at h
    cases e : ds[i]? with
    | none => rw [e]
                                                                                                    at h; cases h
    | some d' =>
      rw [e] at h
      exact h
  · rw [List.getElem?_append_right (by simpa using hi), List.getElem?_replicate] at h
    split at h
    · rename_i e
      split at e <;> cases e
    · cases h
theorem start_get {N : List Str} {vs : List V} {i : Nat} {v : V} (h : vs[i]? = some v) : (L2.start N vs)[i]? = some (some v) := by
  unfold L2.start
  have hi := (List.getElem?_eq_some_iff.mp h).1
  rw [List.getElem?_append_left (by simpa using hi), List.getElem?_map, h]
  rfl
theorem get_start {N : List Str} {vs : List V} {i : Nat} {v : V} (h : (L2.start N vs)[i]? = some (some v)) : vs[i]? = some v := by
  unfold L2.start at h
  by_cases hi : i < vs.length
  · rw [List.getElem?_append_left (by simpa using hi), List.getElem?_map] at h
    cases e : vs[i]? with
    | none => rw [e]
                                                                                                    at h; cases h
    | some a => rw [e] at h; cases h; rfl
  · rw [List.getElem?_append_right (by simpa using hi), List.getElem?_replicate] at h
    split at h <;> cases h
theorem start_len {N : List Str} {vs : List V} (h : vs.length ≤ N.length) : (L2.start N vs).length = N.length := by
  unfold L2.start
  simp
  omega
theorem at_start {W : Wp} {q : Sit} {st : S} {H : Hp} {N : List Str} {ds : List D} {vs : List V} {us : List Nat} (s0 : Sit0 W q st H) (r : Reps W q.Z (hid q.B H) ds vs) (h : ds.length ≤ N.length) : At W ⟨q.Z, q.B, initE N.length ds⟩ st us (L2.start N vs) H :=
  ⟨s0.sS, s0.sL, s0.w, s0.hB, by rw [start_len (by rw [← r.len]; exact h)]; exact initE_len h, fun i _ d e => by
    obtain ⟨v, h1, h2⟩ := r.get (initE_get e)
    exact ⟨v, start_get h1, h2⟩⟩

/-! ### names of a closure -/
structure LamScope (NL ps : List Str) (L : LamD) : Prop where
  kind : L.scope.kind = .function
  co : L.scope.isCoroutine = false
  gen : L.scope.isGenerator = false
  nd : NL.Nodup
  pre : NL.take (ps.length + L.cn.length) = ps ++ L.cn
  cell : ∀ y ∈ L.scope.names, y.2 ≠ .cell
  par : ∀ x ∈ ps, L.scope.names.lookup x = some .local
  own : ∀ y ∈ L.scope.names, y.2 = .local → y.1 ∈ ps
  free : ∀ y ∈ L.scope.names, y.2 = .free → y.1 ∈ L.cn
def lamScB (NL ps : List Str) (L : LamD) : Bool :=
  decide (L.scope.kind = .function) && !L.scope.isCoroutine && !L.scope.isGenerator && decide NL.Nodup && decide (NL.take (ps.length + L.cn.length) = ps ++ L.cn) && ps.all (fun x => decide (L.scope.names.lookup x = some .local)) &&
    L.scope.names.all fun y => !decide (y.2 = .cell) && (!decide (y.2 = .local) || decide (y.1 ∈ ps)) && (!decide (y.2 = .free) || decide (y.1 ∈ L.cn))
theorem lamSc_by {NL ps : List Str} {L : LamD} (h : lamScB NL ps L = true) : LamScope NL ps L := by
  unfold lamScB at h
  simp only [Bool.and_eq_true, Bool.or_eq_true, Bool.not_eq_true', decide_eq_true_eq, decide_eq_false_iff_not, List.all_eq_true]
                                                                                                    at h
  obtain ⟨⟨⟨⟨⟨⟨h1, h2⟩, h3⟩, h4⟩, h5⟩, h6⟩, h7⟩ :=
                                                                                                    h
  exact ⟨h1, h2, h3, h4, h5, fun y hy => (h7 y hy).1.1, h6, fun y hy e => (h7 y hy).1.2.resolve_left fun z => z e, fun y hy e => (h7 y hy).2.resolve_left fun z => z e⟩
abbrev lmEnv (L : LamD) (C f c' : Addr) (cl : List (Str × Addr)) : PySem.Env := PySem.W.envX L.qual L.scope C f (.ref c') cl
/-- the context of a closure's body -/
abbrev lmCx (P : Program) (w : PySem.World) (K : PySem.W.Frag) (mg : Str → Option Value) (base : Heap) (NL : List Str) (A : Around) (outer : List PySem.Env) (s : Shared) (H : Hp) (L : LamD) (f c' : Addr) (cl : List (Str × Addr)) : Cx :=
  { prog := P, w := w, K := K, mg := mg, base := base, A := A.deeper (lmEnv L s.heap.objs.size f c' cl), N := NL, s_0 := s, H_0 := H, env := lmEnv L s.heap.objs.size f c' cl, outer := outer, stack := lmEnv L s.heap.objs.size f c' cl :: outer, ex := [], fn := fun _ => false, calm := true, pn := [], xe := fun _ _ => False }
theorem nd_lookup {α : Type} {x : Str} {u : α} : ∀ {l : List (Str × α)}, (l.map (·.1)).Nodup → (x, u) ∈ l → l.lookup x = some u
  | [], _, hm => by cases hm
  | (n, v) :: l, hnd, hm => by
    rw [List.map_cons,
                                                                                                    List.nodup_cons] at hnd
    rw [List.lookup_cons]
    rcases List.mem_cons.mp hm
                                                                                                    with e | hm
    · cases e
      simp
    · have : (x == n) = false := beq_eq_false_iff_ne.mpr fun z => hnd.1 (z ▸ List.mem_map.mpr ⟨_, hm, rfl⟩)
      rw [this]
      exact nd_lookup hnd.2 hm
theorem zip_sub {α β : Type} : ∀ (l : List α) (m : List β), ((l.zip m).map (·.1)).Sublist l
  | [], _ => by simp
  | _ :: _, [] => by simp
  | a :: l, b :: m => by
    rw [List.zip_cons_cons, List.map_cons]
    exact (zip_sub l m).cons_cons a
theorem zip_lookup {x : Str} {u : Value} : ∀ {ps : List Str} {us : List Value} {i : Nat}, ps.Nodup → ps[i]? = some x → us[i]? = some u → (ps.zip us).reverse.lookup x = some u := by
  intro ps us i nd h1 h2
  have hm : (x, u) ∈ (ps.zip us).reverse := List.mem_reverse.mpr (List.mem_of_getElem? (i := i) (by rw [List.getElem?_zip_eq_some]; exact ⟨h1, h2⟩))
  have hnd : ((ps.zip us).reverse.map (·.1)).Nodup := by
    rw [List.map_reverse]
    refine List.pairwise_reverse.mpr (List.Pairwise.imp Ne.symm (nd.sublist ?_))
    exact zip_sub ps us
  exact nd_lookup hnd hm
section
variable {P : Program} {w : PySem.World} {K : PySem.W.Frag} {mg : Str → Option Value} {base : Heap} {W : Wp} {Γ Γ' : Gam} {lx : Str} {L : LamD} {NL ps : List Str} {k : Nat} {ce : T}
theorem inv_lam {A : Around} {outer : List PySem.Env} {s : Shared} {H : Hp} {q : Sit} {f c' : Addr} {cl : List (Str × Addr)} {cvs vs : List V} {us : List Value} {h1 : Heap} {tk : Nat} (S : LamScope NL ps L) (hd : A.handled = none) (e0 : Env0 P w K mg base A outer s H) (la : LamAt (hid q.B H) L f cl c' cvs)
    (hl : vs.length = ps.length) (r : Vals vs us) (hns : h1.Ns s.heap.objs.size fun x => (ps.zip us).reverse.lookup x) (kp : ∀ b o, s.heap.get? b = some o → h1.get? b = some o) :
    Inv (lmCx P w K mg base NL A outer s (hid (cl.map (·.2)) H) L f c' cl) [] (L2.start NL (vs ++ cvs)) (hid (cl.map (·.2)) H) { s with heap := h1, toks := tk } := by
  have lcl : cl.length = L.cn.length := by rw [← la.nm, List.length_map]
  have cellK : ∀ {i : Nat} {n : Str} {c : Addr}, cl[i]? = some (n, c) → ∃ v u o, cvs[i]? = some v ∧ RelV v u ∧ H c = some (KnO o) ∧ s.heap.get? c = some o ∧ o.data = .cell (some u) := fun {i n c} e => by
    have hi : i < cvs.length := by rw [← la.len]; exact (List.getElem?_eq_some_iff.mp e).1
    obtain ⟨o, u, g1, g2, g3⟩ := la.ce i n c cvs[i] e (by simp [hi])
    have g1 := (hid_some g1).2
    exact ⟨cvs[i], u, o, by simp [hi], g3, g1, (e0.hok c _ g1).1, g2⟩
  have memI : ∀ {p : Str × Addr}, p ∈ cl → ∃ i, cl[i]? = some p := fun hp => let ⟨i, h⟩ := List.getElem?_of_mem hp; ⟨i, h⟩
  have nk : Kn (cl.map (·.2)) H := fun b hb => by
    obtain ⟨p, hp, rfl⟩ := List.mem_map.mp hb
    obtain ⟨i, hi⟩ := memI hp
    obtain ⟨v, u, o, _, _, e, _⟩ := cellK (n := p.1) (c := p.2) hi
    exact ⟨o, e⟩
  have hN : NL.length ≥ ps.length + L.cn.length := by
    have := congrArg List.length S.pre
    simp only [List.length_take, List.length_append] at this
    omega
  have noA : ∀ b : Addr, b ∉ ([] : List Addr) := fun b z => by cases z
  refine ⟨⟨e0.mod, S.kind, rfl, rfl, Nat.le_refl _, fun y z c h1 h2 => la.inj y z c (PySem.mem_of_lookup h1) (PySem.mem_of_lookup h2), fun y hy => ?_, fun y c z _ => absurd (show false = true from z) (by decide), fun _ => hd, Around.frames_deeper e0.frames, .inr ⟨rfl, rfl⟩, fun b z => absurd z (noA b), fun b o e => ⟨(e0.bs b o e).1, ?_⟩, e0.bsz, fun b _ _ => noA b, fun b z => absurd z (noA b), e0.funs, fun b hb => ?_⟩,
    rfl, e0.bare, Un.kept kp, ⟨_, hns, fun i y v h1 h2 h3 => ?_⟩, fun y c h => ?_, ?_, fun y c h => hid_none (List.mem_map.mpr ⟨(y, c), PySem.mem_of_lookup h, rfl⟩), fun p hp => absurd (show p ∈ ([] : List (Addr × Obj)) from hp) (by simp), (hok_hid e0.hok nk).kept kp, ?_⟩
  · have hy : L.scope.names.lookup y = some .cell ∨ L.scope.names.lookup y = some .free := hy
    rcases hy with hy | hy
    · exact absurd rfl (S.cell _ (PySem.mem_of_lookup hy))
    · have := S.free _ (PySem.mem_of_lookup hy) rfl
      rw [← la.nm] at this
      obtain ⟨p, hp, hpy⟩ := List.mem_map.mp this
      obtain ⟨n, c⟩ := p
      have hpy : n = y := hpy
      subst hpy
      exact mem_lookup hp
  · have := (e0.bs b o e).2
    by_cases hb : b ∈ cl.map (·.2)
    · exact hid_none hb
    · show hid _ H b = none
      rw [hid_out hb]; exact this
  · have := e0.frf b hb
    by_cases hb : b ∈ cl.map (·.2)
    · exact hid_none hb
    · show hid _ H b = none
      rw [hid_out hb]; exact this
  · have hv := get_start h2
    have h3 : Vis L.scope y := h3
    have ndT : (ps ++ L.cn).Nodup := by
      rw [← S.pre]
      exact S.nd.sublist
                                                                                                    (List.take_sublist _ _)
    rcases h3 with h3 | h3 | h3
    · have hp := S.own _ (PySem.mem_of_lookup h3) rfl
      obtain ⟨j, hj⟩ := List.getElem?_of_mem hp
      have hjl := (List.getElem?_eq_some_iff.mp hj).1
      have hNj : NL[j]? = some y := by
        have : (NL.take (ps.length + L.cn.length))[j]? = some y := by
          rw [S.pre, List.getElem?_append_left hjl]
          exact hj
        rwa [List.getElem?_take_of_lt (by omega)] at this
      have hij := nodup_ix S.nd h1 hNj
      subst hij
      rw [List.getElem?_append_left (by omega)] at hv
      obtain ⟨u, hu, ru⟩ := r.get hv
      exact ⟨u, ru, .inl ⟨h3, zip_lookup (ndT.sublist (List.sublist_append_left _ _)) hj hu⟩⟩
    · exact absurd rfl (S.cell _ (PySem.mem_of_lookup h3))
    · have hp := S.free _ (PySem.mem_of_lookup h3) rfl
      obtain ⟨j, hj⟩ := List.getElem?_of_mem hp
      have hjl := (List.getElem?_eq_some_iff.mp hj).1
      have hNj : NL[ps.length + j]? = some y := by
        have : (NL.take (ps.length + L.cn.length))[ps.length + j]? = some y := by
          rw [S.pre, List.getElem?_append_right (by omega), Nat.add_sub_cancel_left]
          exact hj
        rwa [List.getElem?_take_of_lt (by omega)] at this
      have hij := nodup_ix S.nd h1 hNj
      subst hij
      rw [List.getElem?_append_right (by omega), show ps.length + j - vs.length = j by omega] at hv
      have hcl : cl[j]? = some (y, (cl[j]'(by omega)).2) := by
        have e1 : (cl.map (·.1))[j]? = some y := by rw [la.nm]; exact hj
        rw [List.getElem?_map, List.getElem?_eq_getElem (by omega)] at e1
        have e2 : (cl[j]'(by omega)).1 = y := Option.some.inj e1
        rw [List.getElem?_eq_getElem (by omega), ← e2]
      obtain ⟨v', u, o, g1, g2, _, g4, g5⟩ := cellK hcl
      rw [g1] at hv
      cases hv
      refine ⟨u, g2, .inr ⟨.inr h3, (cl[j]'(by omega)).2, ?_, o, kp _ _ g4, g5⟩⟩
      have ndc : (cl.map (·.1)).Nodup := by
        rw [la.nm]
        exact ndT.sublist (List.sublist_append_right _ _)
      exact nd_lookup ndc (List.mem_of_getElem? hcl)
  · obtain ⟨i, hi⟩ := memI (PySem.mem_of_lookup h)
    obtain ⟨v, u, o, _, _, _, g4, g5⟩ := cellK hi
    exact ⟨some u, o, kp _ _ g4, g5⟩
  · have : H s.heap.objs.size = none := e0.hok.fresh (Nat.le_refl _)
    by_cases hb : s.heap.objs.size ∈ cl.map (·.2)
    · exact hid_none hb
    · show hid _ H s.heap.objs.size = none
      rw [hid_out hb]; exact this
  · refine start_len ?_
    rw [List.length_append, ← la.len, lcl]
    omega
/-- a closure keeps its promise -/
theorem lam_ok {CX : CXT} (hL : ∀ L', W.lam lx = some L' → L' = L) (S : LamScope NL ps L) (hb : ∀ (cl : List (Str × Addr)) (pm cv ctv : Value) (us : List Value), us.length = ps.length → bindArgs (PySem.W.kla_fn "<lambda>" L.qual L.params L.body L.scope cl pm cv ctv) ⟨us, []⟩ = pure (ps.zip us))
    (he : ∀ (A : Around) (outer : List PySem.Env) (s : Shared) (H : Hp) (f c' : Addr) (cl : List (Str × Addr)), RoomG k (A.deeper (lmEnv L s.heap.objs.size f c' cl)) → PE (lmCx P w K mg base NL A outer s H L f c' cl) L.body (tE W Γ' ce E0))
    (hΓ : ∀ ds st, ds.length = ps.length + L.cn.length → Γ lx ds st = nox (ev Γ' (initE NL.length ds) ce) st) (hΓ' : ∀ ds st, ds.length ≠ ps.length + L.cn.length → Γ lx ds st = .no) : LamOk P w K mg base CX (k + 1) W Γ lx := by
  refine ⟨fun A outer s H f us vs Q E q st ds cs hr e0 r s0 rd n1 rc n2 fn => ?_⟩
  obtain ⟨L', f', cl, c', cvs, eL, ef, la, rcs⟩ := rc
  have := hL L' eL
  subst this
  cases ef
  have lcl : cl.length = L'.cn.length := by rw [← la.nm, List.length_map]
  have lcs : cs.length = L'.cn.length := by rw [rcs.len, ← la.len, lcl]
  by_cases hlen : (ds ++ cs).length = ps.length + L'.cn.length
  · rw [hΓ _ _ hlen] at fn
    have ld : vs.length = ps.length := by
      rw [List.length_append] at hlen
      rw [← rd.len]
      omega
    have nk : Kn (cl.map (·.2)) H := fun b hb => by
      obtain ⟨p, hp, rfl⟩ := List.mem_map.mp hb
      obtain ⟨i, hi⟩ := List.getElem?_of_mem hp
      have hil : i < cvs.length := by rw [← la.len]; exact (List.getElem?_eq_some_iff.mp hi).1
      obtain ⟨o, u, g1, _⟩ := la.ce i p.1 p.2 cvs[i] hi (by simp [hil])
      exact ⟨o, (hid_some g1).2⟩
    obtain ⟨pm, ctv, hf⟩ := la.fn
    have hfo : s.heap.get? f = some (PySem.W.kla_obj "<lambda>" L'.qual L'.params L'.body L'.scope cl pm c' ctv) := (e0.hok f _ (hid_some hf).2).1
    obtain ⟨⟨oc, ov, t, hoc, hdc, hvc⟩, _, _⟩ := e0.hok c' _ (hid_some la.co).2
    refine PySem.W.kla_callFunE hr.r.depth hfo rfl S.co S.gen rfl ⟨c', oc, ov, t, rfl, hoc, hdc, hvc⟩ ?_
    rw [hb cl pm (.ref c') ctv us (by rw [← r.length]; exact ld)]
    refine wpAny_pure (wpAny_newFunctionEnv S.cell (fun y hy => S.par y.1 (List.of_mem_zip hy).1) (fun h1 hns hsb => ⟨?_, ?_⟩) S.kind)
    · exact Heap.NoLimit.fresh (e0.mod.nolimit.keeps fun b o e => (e0.bs b o e).1) _ hsb
    · have kp : ∀ b o, s.heap.get? b = some o → h1.get? b = some o := fun b o e => hsb.extBut b o (Nat.ne_of_lt (Heap.lt_size e)) (Heap.get?_push_of_some _ e)
      have I := inv_lam (tk := s.toks + (ps.zip us).length) S hr.r.hd e0 la ld r hns kp
      have rd' := Reps.noC (kn_le nk q.B) ds vs n1 rd
      have rc' := Reps.noC (kn_le nk q.B) cs cvs n2 rcs
      have at0 := at_start (us := vars ce) (N := NL) (s0_hid s0 nk) (rd'.app rc') (by
        rw [hlen]
        have := congrArg List.length S.pre
        simp only [List.length_take, List.length_append] at this
        omega)
      show codeAny _ _ (.expr L'.body (lmEnv L' s.heap.objs.size f c' cl)) _ _
      refine PySem.W.kla_codeExpr (wpAny_mono ((he A outer s (hid (cl.map (·.2)) H) f c' cl (hr.deeper _)).run [] _ _ _ (fun v H2 => ∀ H3, H3 = back (cl.map (·.2)) H H2 → (∀ b ∈ cl.map (·.2), H2 b = none) → Q v H3) I ⟨_, st, at0, ?_⟩) (fun u s' hq => ?_) fun _ _ z => False.elim z)
      · have f2 : Fin W q E (fun d H' => ∀ v, Rep W q.Z (hid q.B H') d v → Q v H') (bnd (nox (ev Γ' (initE NL.length (ds ++ cs)) ce)) (fun d => ret d) st) H := by
          rw [bnd_id]
          exact fn
        unfold bnd nox at f2
        show Fin W ⟨q.Z, q.B, initE NL.length (ds ++ cs)⟩ E0 (PD W ⟨q.Z, q.B, initE NL.length (ds ++ cs)⟩ (hid (cl.map (·.2)) H) (fresh ce) _) (ev Γ' (initE NL.length (ds ++ cs)) ce st) (hid (cl.map (·.2)) H)
        cases e9 : ev Γ' (initE NL.length (ds ++ cs)) ce st with
        | exc x s9 => rw [e9] at f2; exact f2.elim
        | no => rw [e9] at f2; exact f2.elim
        | ok d s9 =>
          rw [e9] at f2
          intro H2 g2 w2 v rv H3 e3 n3
          rw [e3]
          exact f2 (back (cl.map (·.2)) H H2) (grow_back nk g2) (wld_back n3 w2) v (Rep.mono (fun a o ha nt => by
            obtain ⟨h1, h2⟩ := hid_some ha
            exact hid_of h1 (back_of n3 h2)) _ _ rv.rep)
      · obtain ⟨v, H2, I2, rv, q2⟩ := hq
        have un : Un (frs outer) [] (hid (cl.map (·.2)) H) H2 s.heap s'.heap := I2.base
        have n3 := kn_back e0.hok nk un
        exact ⟨v, back (cl.map (·.2)) H H2, I2.os, I2.bare, un_add un nk, hok_add e0.hok nk un I2.hok e0.frf, rv, q2 _ rfl n3⟩
  · rw [hΓ' _ _ hlen] at fn
    exact fn.elim
end
end Mp
end
section
/-! Mp: a closure is made and handed to a def. -/
namespace Mp
open PySem PySem.Spec
                                                                                                    PyProof.Rows L2

/-- the heap behind a lambda's making: all that was there stays, the table at P may have grown -/
structure LamStep (P : Addr) (H H2 : Hp) : Prop where
  keep : ∀ b o, H b = some o → b ≠ P → H2 b = some o
  there : ∀ b, H b ≠ none → H2 b ≠ none
section
variable {X : Cx} {pins : List
                                                                                                    (Addr × Obj)} {σ : L2.St} {H : Hp} {s : Shared}
theorem lam_new {T : List (Addr × Str)} {c P : Addr} {params : Arguments} {body : Expr} {scope : Scope} {pos : Pos} {E : Value → Shared → Prop} {Q : Value → Shared → Prop} {qn : Str} (I : Inv X pins σ H s) (TB : LamX.TabB X.base X.mg c P) (hcode : X.env.code = .ref c) (hqn : X.env.qual ++ "<lambda>" = qn)
    (hm : (P, qn) ∈ T) (hu : ∀ p ∈ T, p.1 = P → p.2 = qn) (hT : LamX.Tabs T H) (hdef : defaultsOf params X.env = ([], [])) (hfree : ∀ y ∈ scope.names, y.2 = .free → ∃ c, X.env.cells.lookup y.1 = some c)
    (h : ∀ (f c' : Addr) (pm ctv : Value) (H2 : Hp) (s' : Shared), Inv X pins σ H2 s' → LamStep P H H2 → LamX.Tabs T H2 → s'.heap.get? f = some (PySem.W.kla_obj "<lambda>" qn params body scope (cloFrom X.env.cells scope.names []) pm c' ctv) → H2 f = none → s.heap.objs.size ≤ f → H2 c' = some (LamX.CodeO c' qn) → Q (.ref f) s') :
    wpAny (model X.prog X.w) X.A
                                                                                                    (eval (.Lambda params body scope pos) X.env) Q E s := by
  obtain ⟨ps, hP, ht, ha⟩ :=
                                                                                                    hT _ hm
  refine PySem.W.kla_eval
                                                                                                    hdef ?_
  rw [hqn]
  have bP : s.heap.BuiltinsAt X.mg P :=
                                                                                                    TB.bm.keeps I.bk
  have hP' : s.heap.get? P = some { cls :=
                                                                                                    .none, data := .fields ps } := I.hok P _ hP
  cases hc : codeAmong
                                                                                                    pos ps.toList with
  | none =>
    refine PySem.W.kla_makeFunction
                                                                                                    (mg := X.mg) (c := c) (P := P) (ps := ps) (closure_ok hfree) I.ok.glob (I.mod.glob.keeps I.bk) hcode (TB.code.keeps I.bk) hP' ht hc TB.gP bP fun c' ctv h' tk hx hge hlt hrec htb => ?_
    obtain ⟨c2, oc, vs, t, e2, hoc, hd, hv⟩ :=
                                                                                                    hrec
    cases e2
    have hsz : s.heap.objs.size ≤ h'.objs.size := Nat.le_trans hge
                                                                                                    (Nat.le_of_lt hlt)
    have nC : H c' = none :=
                                                                                                    I.hok.fresh hge
    have J := LamX.inv_table (t' := tk) (more := #[rawInt pos.line, rawInt pos.col, .ref c']) (h' := h'.push (PySem.W.kla_obj "<lambda>" qn params body scope (cloFrom X.env.cells scope.names []) ((X.mg "__name__").getD .none) c' ctv)) I hP
      (fun b o hb e => Heap.get?_push_of_some _
                                                                                                    (hx b o hb e)) (Heap.get?_push_of_some _ htb) hge ⟨oc, vs, t, Heap.get?_push_of_some _ hoc, hd, hv⟩
    have nPc : P ≠ c' := ne_of_none hP nC
    have at_ : ∀ b o, H b = some o → b ≠ P → upd (upd H P (.tbl (ps ++ #[rawInt pos.line, rawInt pos.col, .ref c']))) c' (LamX.CodeO c' qn) b = some o := fun b o e hb => by
      rw [upd_ne (ne_of_none e nC), upd_ne hb]
      exact e
    have eL :
                                                                                                    (ps ++ #[rawInt pos.line, rawInt pos.col, .ref c']).toList = ps.toList ++ [rawInt pos.line, rawInt pos.col, .ref c'] := by simp
    have noP : ∀ {d : Addr}, H d = some (LamX.CodeO d qn) → d ≠ P := fun {d} e z => by
      rw [z, hP] at e
      exact LamX.codeO_ne ps (Option.some.inj e).symm
    have noP' : ∀ {d : Addr} {r : Str}, H d = some (LamX.CodeO d r) → d ≠ P := fun {d r} e z => by
      rw [z, hP] at e
      exact LamX.codeO_ne ps (Option.some.inj e).symm
    refine h h'.objs.size c' ((X.mg "__name__").getD .none) ctv _ _ J ⟨at_, fun b hb z => ?_⟩ (fun p hp => ?_) (Heap.get?_push_size _ rfl) ?_ hsz upd_same
    · by_cases e1 : b = c'
      · rw [e1, upd_same] at z
        cases z
      · by_cases e2 : b = P
        · rw [e2, upd_ne nPc, upd_same] at z
          cases z
        · rw [upd_ne e1, upd_ne e2] at z
          exact hb z
    · by_cases hb : p.1 = P
      · rw [hu p hp hb, hb]
        refine ⟨_, by rw [upd_ne nPc, upd_same], by rw [eL]; exact PySem.TriplesOk_snoc _ _ _ _ ht, fun p' cv hcv => ?_⟩
        rw [eL] at hcv
        rcases LamX.among_app _ ht hcv with z | z
        · obtain ⟨c0, e1, e2⟩ :=
                                                                                                    ha p' cv z
          exact ⟨c0, e1, at_ _ _ e2 (noP e2)⟩
        · exact ⟨c', z, upd_same⟩
      · obtain ⟨ps', a1, a2, a3⟩ :=
                                                                                                    hT p hp
        refine ⟨ps', at_ _ _ a1 hb, a2, fun p' cv hcv => ?_⟩
        obtain ⟨c0, e1, e2⟩ :=
                                                                                                    a3 p' cv hcv
        exact ⟨c0, e1, at_ _ _ e2 (noP' e2)⟩
    · rw [upd_ne (Nat.ne_of_gt hlt), upd_ne (Nat.ne_of_gt (Nat.lt_of_lt_of_le (Heap.lt_size hP') hsz))]
      exact I.hok.fresh hsz
  | some cv =>
    obtain ⟨c', e, hco⟩ :=
                                                                                                    ha pos cv hc
    subst e
    refine PySem.W.kla_makeFunctionHit
                                                                                                    (mg := X.mg) (c := c) (P := P) (ps := ps) (closure_ok hfree) I.ok.glob (I.mod.glob.keeps I.bk) hcode (TB.code.keeps I.bk) hP' ht hc bP fun ctv h' tk hx hsz => ?_
    exact h h'.objs.size c' ((X.mg "__name__").getD .none) ctv H _ (I.kept fun b o e => Heap.get?_push_of_some _ (hx b o e)) ⟨fun _ _ e _ => e, fun _ e => e⟩ hT (Heap.get?_push_size _ rfl) (I.hok.fresh hsz) hsz hco
end
/-- the names of the cells, as a closure holds them -/
def freeNs : List (Str × NameKind) → List Str → List Str
  | [], acc => acc
  | (n, k) :: r, acc => if k == .free then freeNs r (n :: acc) else freeNs r acc
theorem cloFrom_names (cells : List (Str × Addr)) : ∀ (names : List (Str × NameKind)) (acc : List (Str × Addr)), (cloFrom cells names acc).map (·.1) = freeNs names (acc.map (·.1))
  | [], acc => rfl
  | (n, k) :: r, acc => by
    unfold cloFrom freeNs
    by_cases hk :
                                                                                                    (k == NameKind.free) = true
    · rw [if_pos hk, if_pos hk, cloFrom_names]
      rfl
    · rw [if_neg hk, if_neg hk, cloFrom_names]
/-- expressions, one by one -/
inductive PEs (X : Cx) (W : Wp) (Γ : Gam) (E : XK) : List Expr → List T → Prop
  | nil : PEs X W Γ E [] []
  | cons {e : Expr} {A : T} {es : List Expr} {ts : List T} : PE X e (tE W Γ A E) → PEs X W Γ E es ts → PEs X W Γ E (e :: es) (A :: ts)
theorem PEs.pa {X : Cx} {W : Wp} {Γ : Gam} {E : XK} : ∀ {es : List Expr} {ts : List T}, PEs X W Γ E es ts → noStar es = true → PA X es (tA W Γ ts E)
  | _, _, .nil, _ => r_nil
  | _, _, .cons h r, hs => r_cons h (r.pa (star_one (env := X.env) hs).2) (star_one hs).1
theorem PEs.len {X : Cx} {W : Wp} {Γ : Gam} {E : XK} : ∀ {es : List Expr} {ts : List T}, PEs X W Γ E es ts → es.length = ts.length
  | _, _, .nil => rfl
  | _, _, .cons h r => by rw [List.length_cons, List.length_cons, r.len]
/-- arguments, then one more -/
theorem args_last {X : Cx} {W : Wp} {Γ : Gam} {E : XK} {pos : Pos} {lam : Expr} (hl : noStar [lam] = true) {pins : List (Addr × Obj)} {σ : L2.St} : ∀ {es : List Expr} {ts : List T}, PEs X W Γ E es ts → noStar es = true → ∀ {s : Shared} {H : Hp} {Lf : List V → Hp → Prop} {R : List Value → Shared → Prop}, Inv X pins σ H s → tA W Γ ts E σ H Lf →
    (∀ vs us H1 s1, Inv X pins σ H1 s1 → Vals vs us → Lf vs H1 → wpAny (model X.prog X.w) X.A (eval lam X.env) (fun u s2 => R (us ++ [u]) s2) X.xe s1) → wpAny (model X.prog X.w) X.A (spliced (backTo pos (starEach (es ++ [lam]) X.env))) R X.xe s
  | _, _, .nil, _, s, H, Lf, R, I, ⟨q, st, h, f⟩, k => by
    have hq : Lf [] H := f.ret (.refl _ _) h.w [] rfl
    rw [List.nil_append, (star_one (env := X.env) hl).1]
    show wpAny _ _ (spliced ((false, eval lam X.env) :: backTo pos (starEach [] X.env))) _ _ s
    exact Calls.spliced_cons (thn (k [] [] H s I .nil hq) fun u s2 hr => Calls.spliced_nil hr)
  | _, _, @PEs.cons _ _ _ _ e A es ts he hr, hs, s, H, Lf, R, I, ⟨q, st, h, f⟩, k => by
    obtain ⟨s1, s2⟩ := star_one (env := X.env) hs
    have s1' : starEach ((e :: es) ++ [lam]) X.env = (false, eval e X.env) :: starEach (es ++ [lam]) X.env := by
      cases e <;> first | rfl | (simp [noStar] at hs)
    rw [s1']
    show wpAny _ _ (spliced ((false, eval e X.env) :: backTo pos (starEach (es ++ [lam]) X.env))) _ _ s
    have f' : Fin W q E (PL W q Lf) (bnd (ev Γ q.ρ A) (fun x => bnd (evs Γ q.ρ ts) fun xs => ret (x :: xs)) st) H := f
    refine Calls.spliced_cons (thn (he.run pins s σ H (fun x H1 => tA W Γ ts E σ H1 fun xs H2 => Lf (x :: xs) H2) I (one h.left f' fun d st' H' x a' g r f1 =>
      ⟨q, st', (h.grow g a'.w).right, f1.split fun ds st2 f0 H2 g2 w2 f2 vs rs => f2.ret (.refl _ _) w2 (x :: vs) (.cons (Rep.mono (g2.le h.sS h.sL) _ _ r.rep) rs)⟩)) fun u s2 ⟨x, H1, I1, r1, q1⟩ => ?_)
    exact args_last hl hr (by assumption) I1 q1 fun vs us H2 s3 I2 rv hq => thn (k (x :: vs) (u :: us) H2 s3 I2 (.cons r1 rv) hq) fun u' s4 hR => hR
theorem getEs_at {ρ : Env} : ∀ {is : List Nat} {ds : List D} {j : Nat} {d : D}, getEs ρ is = some ds → ds[j]? = some d → ∃ i, is[j]? = some i ∧ getE ρ i = some d
  | [], ds, j, d, h, e => by
    cases h
    simp at e
  | i :: is, ds, j, d, h, e => by
    obtain ⟨x, e1, h⟩ := Option.bind_eq_some_iff.mp (show (getE ρ i).bind (fun d => (getEs ρ is).map (d :: ·)) = some ds from h)
    obtain ⟨xs, e2, rfl⟩ := Option.map_eq_some_iff.mp h
    cases j with
    | zero =>
      cases e
      exact ⟨i, rfl, e1⟩
    | succ j =>
      obtain ⟨k, g1, g2⟩ := getEs_at (j := j) e2 (by simpa using e)
      exact ⟨k, by simpa using g1, g2⟩
theorem getEs_len {ρ : Env} : ∀ {is : List Nat} {ds : List D}, getEs ρ is = some ds → ds.length = is.length
  | [], ds, h => by
    cases h
    rfl
  | i :: is, ds, h => by
    obtain ⟨x, e1, h⟩ := Option.bind_eq_some_iff.mp (show (getE ρ i).bind (fun d => (getEs ρ is).map (d :: ·)) = some ds from h)
    obtain ⟨xs, e2, rfl⟩ := Option.map_eq_some_iff.mp h
    rw [List.length_cons, List.length_cons, getEs_len e2]
theorem reps_of {W : Wp} {Z : Zp} {F : Hp} : ∀ {ds : List D} {vs : List V}, ds.length = vs.length → (∀ (j : Nat) d v, ds[j]? = some d → vs[j]? = some v → Rep W Z F d v) → Reps W Z F ds vs
  | [], [], _, _ => rfl
  | [], _ :: _, h, _ =>
                                                                                                    by simp at h
  | _ :: _, [], h, _ =>
                                                                                                    by simp at h
  | d :: ds, v :: vs, h, k => .cons (k 0 d v rfl rfl) (reps_of (by simpa using h) fun j d' v' e1 e2 => k (j + 1) d' v' (by simpa using e1) (by simpa using e2))
theorem wld_step {W : Wp} {Z : Zp} {st : S} {P : Addr} {ps : Array Value} {H H2 : Hp} (w : Wld W Z st H) (hP : H P = some (.tbl ps)) (nP : P ∉ W.tabs) (l : LamStep P H H2) (t : LamX.Tabs W.ltabs H2) : Wld W Z st H2 := by
  have ne : ∀ {a : Addr} {o : HO}, H a = some o → (∀ x, o ≠ .tbl x) → H2 a = some o := fun {a o} e n => l.keep a o e fun z => by
    rw [z, hP] at e
    exact n ps (Option.some.inj e).symm
  refine ⟨ne w.s (fun x z => by cases z), ne w.c (fun x z => by cases z), ne w.l (fun x z => by cases z), w.len, w.pos, w.few, w.at0, fun Q hQ => ?_, t⟩
  obtain ⟨rs, e1, e2⟩ := w.t Q hQ
  exact ⟨rs, l.keep _ _ e1 fun z => nP (z ▸ hQ), e2⟩
theorem grow_step {Z : Zp} {P : Addr} {ps : Array Value} {H H2 : Hp} (hP : H P = some (.tbl ps)) (l : LamStep P H H2) : Grow Z H H2 :=
  ⟨fun a o e _ _ n => l.keep a o e fun z => by
    rw [z, hP] at e
    exact n ps (Option.some.inj e).symm, l.there⟩
/-- what a call with a lambda behind its arguments asks -/
structure LamR (X : Cx) (W : Wp) (c P : Addr) (params : Arguments) (body : Expr) (scope : Scope) (lx qn : Str) (caps : List Nat) : Prop where
  lam : W.lam lx = some ⟨qn, params, body, scope, freeNs scope.names []⟩
  hq : X.env.qual ++ "<lambda>" = qn
  TB : LamX.TabB X.base X.mg c P
  code : X.env.code = .ref c
  mem : (P, qn) ∈ W.ltabs
  uni : ∀ p ∈ W.ltabs, p.1 = P → p.2 = qn
  nt : P ∉ W.tabs
  dfl : defaultsOf params X.env = ([], [])
  free : ∀ y ∈ scope.names, y.2 = .free → X.env.scope.names.lookup y.1 = some .cell ∨ X.env.scope.names.lookup y.1 = some .free
  clen : caps.length = (freeNs scope.names []).length
  at_ : ∀ (j : Nat) (n : Str) (i : Nat), (freeNs scope.names [])[j]? = some n → caps[j]? = some i → X.N[i]? = some n
  fn : ∀ x, X.fn x = true
theorem list_ex {P : Nat → D → V → Prop} : ∀ {cs : List D}, (∀ j d, cs[j]? = some d → ∃ v, P j d v) → ∃ vs : List V, vs.length = cs.length ∧ ∀ j d v, cs[j]? = some d → vs[j]? = some v → P j d v
  | [], _ => ⟨[], rfl, fun j d v h => by simp at h⟩
  | c :: cs, h => by
    obtain ⟨v, hv⟩ := h 0 c rfl
    obtain ⟨vs, h1, h2⟩ := list_ex (P := fun j => P (j + 1)) (cs := cs) fun j d e => h (j + 1) d (by simpa using e)
    refine ⟨v :: vs, by simp [h1], fun j d w e1 e2 => ?_⟩
    cases j with
    | zero =>
      cases e1
      cases e2
      exact hv
    | succ j => exact h2 j d w (by simpa using e1) (by simpa using e2)
/-- the heap's objects at C as known ones -/
abbrev seen (C : List Addr) (h : Heap) (H : Hp) : Hp := back C (fun b => (h.get? b).map KnO) H
section
variable {P : Program} {w : PySem.World} {C : List Addr} {H : Hp} {h : Heap}
theorem seen_in {b : Addr} {o : Obj} (hb : b ∈ C) (e : h.get? b = some o) : seen C h H b = some (KnO o) := by
  unfold seen back
  rw [if_pos hb]
  show (h.get? b).map KnO = _
  rw [e]
  rfl
theorem seen_out {b : Addr} (hb : b ∉ C) : seen C h H b = H b := if_neg hb
theorem kn_seen (ht : ∀ b ∈ C, ∃ o, h.get? b = some o) : Kn C (seen C h H) := fun b hb => by
  obtain ⟨o, e⟩ := ht b hb
  exact ⟨o, seen_in hb e⟩
theorem seen_hid (hn : ∀ b ∈ C, H b = none) : hid C (seen C h H) = H := funext fun b => by
  by_cases hb : b ∈ C
  · rw [hid_none hb, hn b hb]
  · rw [hid_out hb, seen_out hb]
theorem hok_seen (ok : HOk P w H h) (hn : ∀ b ∈ C, H b = none) : HOk P w (seen C h H) h := fun b u e => by
  by_cases hb : b ∈ C
  · cases e2 : h.get? b with
    | none =>
      unfold seen back at e
      rw [if_pos hb] at e
      have e : (h.get? b).map KnO = some u := e
      rw [e2] at e
      cases e
    | some o =>
      rw [seen_in hb e2] at e
      cases e
      exact ⟨e2, trivial, ⟨o, e2⟩, fun _ _ _ _ => trivial⟩
  · rw [seen_out hb] at e
    exact (ok b u e).stay (fun _ _ _ e => e) (fun c e => back_of hn e) fun c xs e => back_of hn e
end
/-- a call with known objects in sight -/
theorem call_seen {X : Cx} {k : Nat} {f : Addr} {fd : FuncData} {ps : List Str} {sp : Sp} {pins : List (Addr × Obj)} {σ : L2.St} {H : Hp} {s : Shared} {C : List Addr} {us : List Value} {vs : List V} {Q : VK} (F : FnG X.prog X.w X.K X.mg X.base CX0 k f fd ps sp) (hr : RoomG k X.A) (I : Inv X pins σ H s)
    (hn : ∀ b ∈ C, H b = none) (ht : ∀ b ∈ C, ∃ o, s.heap.get? b = some o) (hz : ∀ b ∈ C, X.s_0.heap.objs.size ≤ b) (hl : ∀ b ∈ C, b ≠ X.env.locals) (hb : BindsTo s fd ⟨us, []⟩ (ps.zip us)) (rv : Vals vs us) (hs : sp vs (seen C s.heap H) (fun v H' => Kn C H' → Q v (hid C H')) E0) :
    wpAny (model X.prog X.w) X.A (call (.ref f) us []) (EP X pins σ Q) X.xe s := by
  have e0 := I.env0
  have kn : Kn C (seen C s.heap H) := kn_seen ht
  have ok := hok_seen (C := C) I.hok hn
  have e1 : Env0 X.prog X.w X.K X.mg X.base X.A X.stack s (seen C s.heap H) := by
    refine ⟨e0.frames, e0.mod, fun b o e => ⟨(e0.bs b o e).1, ?_⟩, e0.bsz, e0.funs, fun b hb => ?_, ok, e0.bare⟩
    · rw [seen_out fun hb => absurd (Nat.lt_of_lt_of_le (Heap.lt_size e) (Nat.le_trans I.ok.bsz (hz b hb))) (Nat.lt_irrefl _)]
      exact (e0.bs b o e).2
    · rw [seen_out fun hc => ?_]
      · exact e0.frf b hb
      · rcases List.mem_cons.mp (I.stkSub b hb) with z | z
        · exact hl b hc z
        · obtain ⟨_, o, ho, _⟩ :=
                                                                                                    I.ok.funs.mem z
          exact absurd (Nat.lt_of_lt_of_le (Heap.lt_size ho) (hz b hc)) (Nat.lt_irrefl _)
  refine wpAny_call (codeAny_mono (F.run X.A X.stack s (seen C s.heap H) ⟨us, []⟩ us vs _ E0 hr e1 hb rv hs) fun res s' hq => ?_)
  cases res with
  | error e => exact
                                                                                                    False.elim hq
  | ok fl =>
    cases fl with
    | ret u =>
      obtain ⟨v, H', os, bare, un, ok2, r, q⟩ := hq
      have kn2 : Kn C H' := fun b hb => by
        obtain ⟨o, e⟩ := kn b hb
        exact ⟨o, un.frzs b _ _ e⟩
      have u2 := un_drop un ok ok2 kn
      rw [seen_hid hn] at u2
      exact I.after ⟨v, hid C H', os, bare, u2, hok_hid ok2 kn2, r, q kn2⟩
    | next => exact False.elim hq
    | brk => exact False.elim hq
    | cont => exact False.elim hq
theorem many_len {β : Type} {W : Wp} {Γ : Gam} {E : XK} {q : Sit} {st : S} {P : β → Hp → Prop} {H : Hp} {σ : L2.St} {ts : List T} {f : List D → M β} {R : List V → Hp → Prop} (h : At W q st (varss ts) σ H) (hf : Fin W q E P (bnd (evs Γ q.ρ ts) f st) H)
    (k : ∀ ds st' H' xs, ds.length = ts.length → At W q st' (varss ts) σ H' → Grow q.Z H H' → Reps W q.Z (hid q.B H') ds xs → Fin W q E P (f ds st') H' → R xs H') : tA W Γ ts E σ H R := by
  refine ⟨q, st, h, ?_⟩
  unfold bnd at hf
  cases e1 : evs Γ q.ρ ts st with
  | exc x s => rw [e1] at hf; exact hf
  | no => rw [e1] at hf; exact hf
  | ok ds s1 =>
    rw [e1] at hf
    intro H1 g1 w1 xs rx
    exact k ds s1 H1 xs (evs_len _ _ _ _ e1) (h.grow g1 w1) g1 rx (Fin.grow hf g1)
theorem freeNs_mem {n : Str} : ∀ {l : List (Str × NameKind)} {acc : List Str}, n ∈ freeNs l acc → (n, NameKind.free) ∈ l ∨ n ∈ acc
  | [], acc, h => .inr h
  | (m, k) :: r, acc, h => by
    unfold freeNs at h
    by_cases hk :
                                                                                                    (k == NameKind.free) = true
    · rw [if_pos hk] at h
      have ek : k = .free := by simpa using hk
      rcases freeNs_mem h with h | h
      · exact .inl (List.mem_cons_of_mem _ h)
      · rcases List.mem_cons.mp h
                                                                                                    with e | h
        · subst e ek
          exact .inl List.mem_cons_self
        · exact .inr h
    · rw [if_neg hk] at h
      rcases freeNs_mem h with h | h
      · exact .inl (List.mem_cons_of_mem _ h)
      · exact .inr h
set_option maxHeartbeats
                                                                                                    1000000 in
theorem r_callL {X : Cx} {k : Nat} {W : Wp} {Γ : Gam} {E : XK} {x lx qn : Str} {pats : List (Nat × List Str × List Nat)} {es : List Expr} {ts : List T} {p pos lpos : Pos} {c P : Addr} {params : Arguments} {body : Expr} {scope : Scope} {caps : List Nat}
    (R : LamR X W c P params body scope lx qn caps) (Df : DefOk X.prog X.w X.K X.mg X.base CX0 k W Γ x pats) (hr : RoomG k X.A) (hg : Gl X x) (hm : (ts.length + 1, [], []) ∈ pats) (ha : PEs X W Γ E es ts) (hs : noStar (es ++ [.Lambda params body scope lpos]) = true) (hs' : noStar es = true) (hdb : (x == ("__debug__" : Str)) = false) :
    PE X (.Call (.Name x p) (es ++ [.Lambda params body scope lpos]) [] pos) (tE W Γ (.callL x ts lx caps) E) := by
  obtain ⟨fa, fd, ps, hmg, hkp, F, hpat⟩ := Df.ex
  obtain ⟨hb, hlen⟩ := hpat _ hm
  refine ⟨fun pins s σ H Q I ⟨q, st, h, fn⟩ => ?_⟩
  refine wpAny_Call_Name_kw (ld_glob I hg hmg ?_ hdb)
  have hfree : ∀ y ∈ scope.names, y.2 = .free → ∃ c, X.env.cells.lookup y.1 = some c := fun y hy e => I.ok.has _ (R.free y hy e)
  have ask : tA W Γ ts E σ H fun vs H1 => ∃ st' ds, ds.length = ts.length ∧ At W q st' (varss ts ++ caps) σ H1 ∧ Grow q.Z H H1 ∧ Reps W q.Z (hid q.B H1) ds vs ∧
      Fin W q E (PD W q H false Q) (bnd (ofO (getEs q.ρ caps)) (fun cs => bnd (nox (Γ x (ds ++ [.clo lx cs]))) fun d => if noC d then ret d else no) st') H1 :=
    many_len h.left fn fun ds st' H1 xs l a' g r f' => ⟨st', ds, l, h.grow g a'.w, g, r, f'⟩
  have key : wpAny (model X.prog X.w) X.A (spliced (backTo pos (starEach (es ++ [.Lambda params body scope lpos]) X.env))) (fun us s1 => X.K.In s1.heap ∧ wpAny (model X.prog X.w) X.A (call (.ref fa) us []) (EP X pins σ Q) X.xe s1) X.xe s := by
    refine args_last rfl ha hs' I ask fun vs us H1 s1 I1 rv hq => ?_
    obtain ⟨st', ds, hl, a', g, rd, f'⟩ := hq
    obtain ⟨cs, ecs, f'⟩ := Fin.ofO f'
    obtain ⟨tps, hP, _, _⟩ := a'.w.lt _ R.mem
    refine lam_new I1 R.TB R.code R.hq R.mem R.uni a'.w.lt R.dfl hfree fun f c' pm ctv H2 s2 J LS T2 hf nf szf hco => ⟨J.kIn, ?_⟩
    have w2 : Wld W q.Z st' H2 := wld_step a'.w hP R.nt LS T2
    have g2 : Grow q.Z H1 H2 := grow_step hP LS
    have a2 := a'.grow g2 w2
    have rd2 := Reps.mono (g2.le h.sS h.sL) _ _ rd
    generalize hcl : cloFrom X.env.cells scope.names [] = cl at hf
    have enm : cl.map (·.1) = freeNs scope.names [] := by
      rw [← hcl]
      exact cloFrom_names _ _ _
    have lcl : cl.length = (freeNs scope.names []).length := by rw [← enm, List.length_map]
    have lcs : cs.length = caps.length := getEs_len ecs
    have clm : ∀ {n : Str} {c : Addr}, (n, c) ∈ cl → X.env.cells.lookup n = some c ∧ (n, NameKind.free) ∈ scope.names := fun {n c} hm => by
      rw [← hcl] at hm
      rcases cloFrom_mem hm with z | ⟨z, e⟩
      · cases z
      · obtain ⟨c2, e2⟩ := hfree _ z rfl
        rw [e2] at e
        rw [e]
        exact ⟨e2, z⟩
    obtain ⟨cvs, lcv, hcv⟩ := list_ex (cs := cs) (P := fun j d v => (∃ i, caps[j]? = some i ∧ σ[i]? = some (some v)) ∧ Rep W q.Z (hid q.B H2) d v) fun j d e => by
      obtain ⟨i, g1, g2⟩ := getEs_at ecs e
      obtain ⟨v, g3, g4⟩ := a2.see i (List.mem_append_right _ (List.mem_of_getElem? g1)) d g2
      exact ⟨v, ⟨i, g1, g3⟩, g4⟩
    have C0 : ∀ b ∈ f :: cl.map (·.2), b = f ∨ ∃ n, X.env.cells.lookup n = some b := fun b hb => by
      rcases List.mem_cons.mp hb
                                                                                                    with e | hb
      · exact .inl e
      · obtain ⟨⟨n, c⟩, hp, rfl⟩ := List.mem_map.mp hb
        exact .inr ⟨n, (clm hp).1⟩
    have hn : ∀ b ∈ f :: cl.map (·.2), H2 b = none := fun b hb => by
      rcases C0 b hb with rfl | ⟨n, e⟩
      · exact nf
      · exact J.freeC n b e
    have ht : ∀ b ∈ f :: cl.map (·.2), ∃ o, s2.heap.get? b = some o := fun b hb => by
      rcases C0 b hb with rfl | ⟨n, e⟩
      · exact ⟨_, hf⟩
      · obtain ⟨v, o, ho, _⟩ := J.cell n b e
        exact ⟨o, ho⟩
    have hz : ∀ b ∈ f :: cl.map (·.2), X.s_0.heap.objs.size ≤ b := fun b hb => by
      rcases C0 b hb with rfl | ⟨n, e⟩
      · exact Nat.le_trans I1.sz szf
      · exact J.ok.cab n b (R.fn n) e
    have hloc : ∀ b ∈ f :: cl.map (·.2), b ≠ X.env.locals := fun b hb => by
      rcases C0 b hb with rfl | ⟨n, e⟩
      · exact Nat.ne_of_gt (Nat.lt_of_lt_of_le I1.lt szf)
      · exact J.cne n b e
    have kn : Kn (f :: cl.map (·.2)) (seen (f :: cl.map (·.2)) s2.heap H2) := kn_seen ht
    have le2 : Le (hid q.B H2) (hid q.B (seen (f :: cl.map (·.2)) s2.heap H2)) := fun a o e _ => by
      obtain ⟨h1, h2⟩ := hid_some e
      exact hid_of h1 (back_of hn h2)
    have s0 : Sit0 W q st' (seen (f :: cl.map (·.2)) s2.heap H2) := ⟨a2.sS, a2.sL, wld_back hn w2, fun b hb => by
      rcases a2.hB b hb with ⟨xs, e⟩ | ⟨xs, e⟩
      · exact .inl ⟨xs, back_of hn e⟩
      · exact .inr ⟨xs, back_of hn e⟩⟩
    have nB : ∀ {b : Addr} {o : Obj}, b ∈ f :: cl.map (·.2) → b ∉ q.B := fun {b o} hb => a2.s0.no (hn b hb)
    have la : LamAt (hid q.B (seen (f :: cl.map (·.2)) s2.heap H2)) ⟨qn, params, body, scope, freeNs scope.names []⟩ f cl c' cvs := by
      refine ⟨⟨pm, ctv, hid_of (a2.s0.no nf) (seen_in List.mem_cons_self hf)⟩, hid_of (fun hb => ?_) (back_of hn hco), ?_, enm, fun y z b h1 h2 => J.ok.inj y z b (clm h1).1 (clm h2).1, fun i n b v e1 e2 => ?_⟩
      · rcases a2.hB _ hb with ⟨xs, e⟩ | ⟨xs, e⟩ <;> (rw [hco] at e; unfold LamX.CodeO at e; cases e)
      · rw [lcv, lcs, R.clen, lcl]
      · have hi := (List.getElem?_eq_some_iff.mp e2).1
        have e3 : cs[i]? = some (cs[i]'(by omega)) := by simp
        obtain ⟨⟨m, g1, g2⟩, _⟩ := hcv i _ v e3 e2
        have e4 : (freeNs scope.names [])[i]? = some n := by
          rw [← enm, List.getElem?_map, e1]
          rfl
        have hN := R.at_ i n m e4 g1
        have hmem : (n, b) ∈ cl := List.mem_of_getElem? e1
        obtain ⟨cl1, cl2⟩ := clm hmem
        have hk := R.free _ cl2 rfl
        obtain ⟨mm, hns, hval⟩ := J.loc
        obtain ⟨u, ru, lk⟩ := hval m n v hN g2 (.inr hk)
        rcases lk with ⟨z, _⟩ | ⟨_, b2, e5, o, ho, hd⟩
        · have z : X.env.scope.names.lookup n = some .local := z
          rcases hk with e | e <;> (rw [e] at z; cases z)
        · rw [cl1] at e5
          cases e5
          have hbC : b ∈ f :: cl.map (·.2) := List.mem_cons_of_mem _ (List.mem_map.mpr ⟨(n, b), hmem, rfl⟩)
          exact ⟨o, u, hid_of (a2.s0.no (hn b hbC)) (seen_in hbC ho), hd, ru⟩
    have rc : Rep W q.Z (hid q.B (seen (f :: cl.map (·.2)) s2.heap H2)) (.clo lx cs) (.ref f) :=
      ⟨_, f, cl, c', cvs, R.lam, rfl, la, Reps.mono le2 _ _ (reps_of lcv.symm fun j d v e1 e2 => (hcv j d v e1 e2).2)⟩
    have rall : Reps W q.Z (hid q.B (seen (f :: cl.map (·.2)) s2.heap H2)) (ds ++ [.clo lx cs]) (vs ++ [.ref f]) := Reps.app (Reps.mono le2 _ _ rd2) (.cons rc rfl)
    have lvs : vs.length = ts.length := by rw [← rd.len]; exact hl
    have rv2 : Vals (vs ++ [V.ref f]) (us ++ [.ref f]) := rv.append (.cons rfl .nil)
    have lus : (us ++ [Value.ref f]).length = ts.length + 1 := by rw [← rv2.length, List.length_append, lvs]; rfl
    have hbd := hb.to s2 (us ++ [.ref f]) [] (us ++ [.ref f]) J.kIn lus rfl (by rw [List.append_nil]; rfl)
    refine call_seen (C := f :: cl.map (·.2)) F hr J hn ht hz hloc hbd rv2 ⟨?_, q, st', _, s0, rall, ?_⟩
    · exact hlen (vs ++ [.ref f]) (by rw [List.length_append, lvs]; rfl) _ rfl
    · unfold bnd nox at f'
      cases e9 : Γ x (ds ++ [.clo lx cs]) st' with
      | exc y s9 => rw [e9] at f'; exact f'.elim
      | no => rw [e9] at f'; exact f'.elim
      | ok d s9 =>
        rw [e9] at f'
        dsimp only at f'
        by_cases hc : noC d = true
        · rw [if_pos hc] at f'
          intro H3 g3 w3 v r kn3
          have g4 : Grow q.Z H2 (hid (f :: cl.map (·.2)) H3) := by
            have := grow_hid (C := f :: cl.map (·.2)) g3
            rw [seen_hid hn] at this
            exact this
          exact f' (hid (f :: cl.map (·.2)) H3) (g2.trans g4) (wld_hid (q := q) w3 kn3) v (.of (Rep.noC (kn_le kn3 q.B) d v hc r))
        · rw [if_neg hc] at f'
          exact f'.elim
  cases es with
  | nil =>
    refine PySem.W.callWith_KW (h₀ := X.base) I.ok.mod.kin hkp rfl (thn key fun us s1 hq => ?_) (by rfl) rfl
    exact wpAny_pure hq
  | cons e0 rest =>
    obtain ⟨s1e, s2e⟩ := star_one (env := X.env) hs
    refine PySem.W.callWith_KW (h₀ := X.base) I.ok.mod.kin hkp rfl (thn key fun us s1 hq => ?_) (by
      have := star_any (env := X.env) (pos := pos) hs
      show ((backTo pos (starEach (e0 :: rest ++ [Expr.Lambda params body scope lpos]) X.env)).any (·.1) || false) = false
      rw [this]; rfl) s1e
    exact wpAny_pure hq
end Mp
end
section
/-! Mp: dict comprehensions. -/
namespace Mp
open PySem PySem.Spec
                                                                                                    PyProof.Rows L2

/-- a store in a dict's values -/
def putV (k : L2.Key) (v : V) : List L2.Key → List V → List V
  | k' :: ks, w :: ws => if k' = k then v :: ws else w :: putV k v ks ws
  | _, _ => [v]
theorem hasK_mem {k : L2.Key} : ∀ {ks : List L2.Key}, hasK k ks = true ↔ k ∈ ks
  | [] => by simp [hasK]
  | a :: r => by
    rw [hasK, Bool.or_eq_true, decide_eq_true_eq, hasK_mem, List.mem_cons]
    exact ⟨fun h => h.imp Eq.symm id, fun h => h.imp Eq.symm id⟩
theorem addK_cons {k a : L2.Key} {ks : List L2.Key} (h : ¬ a = k) : addK k (a :: ks) = a :: addK k ks := by
  unfold addK
  have e : hasK k (a :: ks) = hasK k ks := by simp [hasK, h]
  rw [e]
  split <;> rfl
theorem addK_nodup {k : L2.Key} {ks : List L2.Key} (h : ks.Nodup) : (addK k ks).Nodup := by
  unfold addK
  split
  · exact h
  · rename_i e
    rw [hasK_mem] at e
    rw [List.nodup_append]
    exact ⟨h, by simp, fun a ha b hb z => e (by rw [List.mem_singleton] at hb; rw [← hb, ← z]; exact ha)⟩
theorem addK_len {k : L2.Key} {ks : List L2.Key} : (addK k ks).length ≤ ks.length + 1 := by
  unfold addK
  split <;> simp
theorem put_zip {k : L2.Key} {z : V} : ∀ {ks : List L2.Key} {ws : List V}, ks.Nodup → ks.length = ws.length → L2.putK (ks.zip ws) k z = (addK k ks).zip (putV k z ks ws) ∧ (addK k ks).length = (putV k z ks ws).length
  | [], [], _, _ => ⟨rfl, rfl⟩
  | [], _ :: _, _, h => by simp at h
  | _ :: _, [], _, h => by simp at h
  | a :: ks, w :: ws, nd, h => by
    rw [List.nodup_cons] at nd
    by_cases e : a = k
    · subst e
      have e1 : addK a (a :: ks) = a :: ks := by simp [addK, hasK]
      rw [e1, putV, if_pos rfl]
      refine ⟨?_, h⟩
      unfold L2.putK
      rw [if_pos (by simp), List.zip_cons_cons, List.map_cons, if_pos rfl, List.zip_cons_cons]
      congr 1
      refine (List.map_congr_left fun p hp => if_neg fun z => nd.1 ?_).trans (List.map_id' _)
      have := (List.of_mem_zip (a := p.1) (b := p.2) hp).1
      rw [z] at this
      exact this
    · obtain ⟨h1, h2⟩ := put_zip (k := k) (z := z) nd.2 (show ks.length = ws.length by simpa using h)
      rw [addK_cons e, putV, if_neg e, List.zip_cons_cons, List.zip_cons_cons, ← h1, List.length_cons, List.length_cons, h2]
      refine ⟨?_, rfl⟩
      unfold L2.putK
      have ea : (((a, w) :: ks.zip ws).any fun kv => decide (kv.1 = k)) = ((ks.zip ws).any fun kv => decide (kv.1 = k)) := by simp [e]
      rw [ea]
      split
      · rw [List.map_cons, if_neg e]
      · rfl
theorem put_reps {W : Wp} {Z : Zp} {F : Hp} {k : L2.Key} {d : D} {z : V} (rz : Rep W Z F d z) : ∀ {ks : List L2.Key} {ds : List D} {ws : List V}, ks.length = ws.length → Reps W Z F ds ws → Reps W Z F (putD k d ks ds) (putV k z ks ws)
  | [], ds, [], _, r => by
    have := r.len
    cases ds with
    | nil => exact .cons rz rfl
    | cons a b => simp at this
  | [], _, _ :: _, h, _ => by simp at h
  | _ :: _, _, [], h, _ => by simp at h
  | a :: ks, [], w :: ws, _, r => by simp [Reps] at r
  | a :: ks, e :: ds, w :: ws, h, r => by
    obtain ⟨v, r', ev, r1, r2⟩ := r
    cases ev
    unfold putD putV
    by_cases c : a = k
    · rw [if_pos c, if_pos c]
      exact .cons rz r2
    · rw [if_neg c, if_neg c]
      exact .cons r1 (put_reps rz (by simpa using h) r2)
theorem key_rep {W : Wp} {Z : Zp} {F : Hp} {d : D} {v : V} {k : L2.Key} (e : keyD d = some k) (r : Rep W Z F d v) : v = kV k := by
  cases d <;> simp only [keyD] at e <;> first | (cases e; done) | (cases e; exact r)
/-- a walk for a dict comprehension -/
theorem dc_walk {J : It} {n : Nat} {G : Hp → Prop} {Y : Nat → Hp → V → Hp → Prop} (w : L2.Walk J n G Y) {g : TG} {tt : TT} {tk tv : TE} {vs : List Nat} {σ : L2.St} {H1 : Hp} {Dn : Addr} {Qd : Hp → Prop} (Pv : Nat → Hp → Prop)
    (h0 : Pv 0 (upd H1 Dn (.dK []))) (hG : ∀ i H, i ≤ n → Pv i H → G H)
    (hs : ∀ i x H H', i < n → Pv i H → Y i H x H' → g x
                                                                                                    (wipe σ vs) H' fun σ2 H2 => wipe σ2 vs = wipe σ vs ∧ tt σ2 H2 fun b H3 =>
      if b = true then tk σ2 H3 (fun y H4 => tv σ2 H4 fun z H5 => ∃ kvs k, y = kV k ∧ H5 Dn = some (.dK kvs) ∧ kvs.length < sizeLine ∧ Pv (i + 1) (upd H5 Dn (.dK (L2.putK kvs k z)))) else Pv (i + 1) H3)
    (hd : ∀ H, Pv n H → Qd H) :
    ∃ U : Nat → Nat → Hp → Prop, (∃ m, U 0 m (upd H1 Dn (.dK []))) ∧ ∀ i m H, U i m H →
      (J.stop i H ∧ Qd H) ∨ (J.go i H ∧ ∃ Nx : Hp → Prop, (∀ H', Nx H' → ∃ m', m' < m ∧ U (i + 1) m' H') ∧ ∀ x H', J.yld i H x H' → g x (wipe σ vs) H' fun σ2 H2 => wipe σ2 vs = wipe σ vs ∧ tt σ2 H2 fun b H3 =>
        if b = true then tk σ2 H3 (fun y H4 => tv σ2 H4 fun z H5 => ∃ kvs k, y = kV k ∧ H5 Dn = some (.dK kvs) ∧ kvs.length < sizeLine ∧ Nx (upd H5 Dn (.dK (L2.putK kvs k z)))) else Nx H3) := by
  refine ⟨fun i m H => (m = n - i ∧ i ≤ n) ∧ Pv i H, ⟨n, ⟨by simp, Nat.zero_le _⟩, h0⟩, fun i m H ⟨⟨em, hi⟩, p⟩ => ?_⟩
  subst em
  rcases Nat.lt_or_ge i n with hlt | hge
  · exact .inr ⟨w.goes i H hlt (hG i H hi p), Pv (i + 1), fun H' p' => ⟨n - (i + 1), by omega, ⟨rfl, hlt⟩, p'⟩, fun x H' y => hs i x H H' hlt p (w.yields i H x H' hlt (hG i H hi p) y)⟩
  · have e : i = n := by omega
    exact .inl ⟨e ▸ w.stops H (hG i H hi p), hd H (e ▸ p)⟩
/-- the turns left -/
structure DcAt (W : Wp) (q : Sit) (E : XK) (Q : VK) (H0 : Hp) (Fm : D → M (D × D)) (xs : List D) (H1 : Hp) (Dn : Addr) (i : Nat) (H : Hp) : Prop where
  go : ∃ st ks ys acc, Grow q.Z H1 H ∧ Wld W q.Z st H ∧ H Dn = some (.dK (ks.zip acc)) ∧ ks.length = acc.length ∧ ks.Nodup ∧ Reps W q.Z (hid (Dn :: q.B) H) ys acc ∧ ks.length ≤ i ∧
    Fin W q E (PD W q H0 false Q) (bnd (nox (dicM Fm (xs.drop i) ks ys)) ret st) H1
def dcF (Γ : Gam) (g : G) (ρ : Env) (ke ve : T) (d : D) : M (D × D) := bnd (ofO (bindG g d ρ)) fun ρ' =>
  bnd (ev Γ ρ' ke) fun y => bnd (ev Γ ρ' ve) fun z => ret (y, z)
section
variable {X : Cx} {W : Wp} {Γ : Gam} {E : XK} {kx vx tg iter : Expr} {scope : Scope} {own : List (Str × Nat)} {pos : Pos} {g : G} {k : IK} {its : List T} {ck cv : T}
theorem dc_turns {q : Sit} {st : S} {σ : L2.St} {H : Hp} {Q : VK} (ho : own.map (·.2) = slotsG g) (h : At W q st (vars (.dc g k its ck cv)) σ H) (f : Fin W q E (PD W q H false Q) (ev Γ q.ρ (.dc g k its ck cv) st) H) :
    tDc (iX W Γ k its E) (tG W g) (tTo W Γ none E0) (tE W Γ ck E0) (tE W Γ cv E0) (own.map (·.2)) σ H Q := by
  have hl : At W q st (varss its) σ H := h.sub fun i hi => by simp [vars, hi]
  have f : Fin W q E (PD W q H false Q) (bnd (itM Γ q.ρ k its) (fun p => (fun xs => bnd (nox (dicM (dcF Γ g q.ρ ck cv) xs [] [])) fun d => if xs.length ≤ sizeLine then ret d else no) p.2) st) H :=
    itM_fin (f := fun xs => bnd (nox (dicM (dcF Γ g q.ρ ck cv) xs [] [])) fun d => if xs.length ≤ sizeLine then ret d else no) f
  refine ⟨q, st, hl, f.split fun px st1 _ H1 g1 w1 f1 J wa Dn hD => ?_⟩
  have wd := wa.self
  obtain ⟨dsx, xs⟩ := px
  dsimp only at wd f1
  obtain ⟨hz, f1⟩ := f1.ifN
  have h1 := h.grow g1 w1
  have nB : Dn ∉ q.B := h1.s0.no hD
  refine dc_walk wd (fun i H' => DcAt W q E Q H (dcF Γ g q.ρ ck cv) xs H1 Dn i H') ⟨st1, [], [], [], .new hD, w1.new hD, by rw [upd_same]; rfl, rfl, List.nodup_nil, rfl, Nat.le_refl _, ?_⟩ (fun i H' hi p => ?_) (fun i x H2 H3 hi p y => ?_) fun H2 p => ?_
  · rw [List.drop_zero]
    exact f1
  · obtain ⟨st2, ks, ys, acc, gr, w2, _⟩ := p.go
    exact ⟨gr.le h.sS h.sL, fun a ha z => gr.there a (by rcases h1.hB a ha with ⟨_, e⟩ | ⟨_, e⟩ <;> (rw [e]; simp)) z⟩
  · obtain ⟨st2, ks, ys, acc, gr, w2, e2, lk, nd, r2, l2, f2⟩ := p.go
    obtain ⟨g3, w3⟩ := wld_wy y w2
    obtain ⟨d, ed, rd⟩ := y.2
    have hx : xs.drop i = d :: xs.drop (i + 1) := by
      obtain ⟨hi', e⟩ := List.getElem?_eq_some_iff.mp ed
      rw [← e]
      exact List.drop_eq_getElem_cons hi'
    have g13 := gr.trans g3
    rw [hx, dicM, nox_bnd, bnd_assoc, dcF, nox_bnd, bnd_assoc, nox_ofO] at f2
    obtain ⟨ρ', hb, f2⟩ := f2.ofO
    have keep : ∀ {Ha Hb : Hp}, Grow q.Z Ha Hb → Ha Dn = some (.dK (ks.zip acc)) → Hb Dn = some (.dK (ks.zip acc)) := fun g e => g.keep _ _ e (fun z => nB (z ▸ h.sS)) (fun z => nB (z ▸ h.sL)) fun ps z => by cases z
    have e3 := keep g3 e2
    have rD : Rep W q.Z (hid (Dn :: q.B) H3) d x := rd _ ⟨fun a ha => List.mem_cons_of_mem _ ha, fun a ha => (List.mem_cons.mp ha).elim (fun z => .inr (z ▸ hD)) .inl, fun a ha z => by
      rcases List.mem_cons.mp ha with e | e
      · rw [e, e2] at z
        cases z
      · rcases h1.hB a e with ⟨_, e'⟩ | ⟨_, e'⟩ <;> exact gr.there a (by rw [e']; simp) z⟩
    refine ⟨q.Z, hid (Dn :: q.B) H3, d, q.ρ, ρ', fun a vs e => (hid_some e).2, rD, hb, by rw [wipe_length]; exact h.len, fun σ2 b => ⟨?_, ?_⟩⟩
    · rw [wipe_of (σ2 := σ2) (σ := wipe σ (own.map (·.2))) b.len fun j hj => b.out j (ho ▸ hj), wipe_wipe]
    have ain := fun (vs : List Nat) (hv : ∀ i ∈ vs, i ∈ slotsG g ∨ i ∈ vars (.dc g k its ck cv)) => at_in (st' := st2) h1 g13 w3 hD (.inr ⟨_, e3⟩) hb ho b hv
    refine ⟨⟨q.Z, Dn :: q.B, ρ'⟩, st2, ain _ fun i hi => by simp [varso] at hi, ?_⟩
    show Fin W ⟨q.Z, Dn :: q.B, ρ'⟩ E0 _ (ret true st2) H3
    intro H4 g4 w4
    rw [if_pos rfl]
    rw [nox_bnd, bnd_assoc] at f2
    refine ⟨⟨q.Z, Dn :: q.B, ρ'⟩, st2, (ain _ fun i hi => ?_).grow g4 w4, f2.splitB (g13.trans g4) fun dy st5 f5 H5 g5 w5 y5 r5 => ?_⟩
    · by_cases hg : i ∈ slotsG g
      · exact .inl hg
      · exact .inr (by simp [vars, hi, hg])
    rw [nox_bnd, bnd_assoc] at f5
    refine ⟨⟨q.Z, Dn :: q.B, ρ'⟩, st5, (ain _ fun i hi => ?_).grow (g4.trans g5) w5, f5.splitB ((g13.trans g4).trans g5) fun dz st6 f6 H6 g6 w6 z6 r6 => ?_⟩
    · by_cases hg : i ∈ slotsG g
      · exact .inl hg
      · exact .inr (by simp [vars, hi, hg])
    have f6 : Fin W q E (PD W q H false Q) (bnd (nox (bnd (ofO (keyD dy)) fun k => dicM (dcF Γ g q.ρ ck cv) (xs.drop (i + 1)) (addK k ks) (putD k dz ks ys))) ret st6) H1 := f6
    rw [nox_bnd, bnd_assoc, nox_ofO] at f6
    obtain ⟨key, ek, f6⟩ := f6.ofO
    have g46 := (g4.trans g5).trans g6
    have e6 := keep g46 e3
    have r7 : Reps W q.Z (hid (Dn :: q.B) H6) ys acc := Reps.mono ((g3.trans g46).le (List.mem_cons_of_mem _ h.sS) (List.mem_cons_of_mem _ h.sL)) _ _ r2
    have la := r2.len
    obtain ⟨p1, p2⟩ := put_zip (k := key) (z := z6) nd lk
    have hlk : (ks.zip acc).length = ks.length := by rw [List.length_zip, lk, Nat.min_self]
    have hal := addK_len (k := key) (ks := ks)
    refine ⟨_, key, key_rep ek r5.rep, e6, by rw [hlk]; omega, st6, addK key ks, putD key dz ks ys, putV key z6 ks acc, grow_put (((g13.trans g4).trans g5).trans g6) hD, wld_new h1.w hD w6 (.inr ⟨_, e6⟩), by rw [upd_same, p1], p2, addK_nodup nd, Reps.mono (le_put List.mem_cons_self) _ _ (put_reps r6.rep lk r7), by omega, f6⟩
  · obtain ⟨st2, ks, ys, acc, gr, w2, e2, lk, nd, r2, l2, f2⟩ := p.go
    rw [List.drop_length, dicM] at f2
    have f2 : Fin W q E (PD W q H false Q) (ret (.dic ks ys) st2) H1 := f2
    have r3 : Reps W q.Z (hid q.B H2) ys acc := Reps.mono (le_skip Dn) _ _ r2
    exact f2.ret gr w2 _ (.of ⟨Dn, acc, rfl, hid_of nB e2, lk, r3⟩)
theorem r_dc (hc : X.calm = true) (hN : X.N.Nodup) (hi : PI X tg iter (iX W Γ k its E)) (ok : BlkOk X.N X.env.scope scope own) (ho : own.map (·.2) = slotsG g)
    (hg : ∀ (s : Shared) (H : Hp) (C : Addr) (cl : List (Str × Addr)) (fp : List Addr), PG (X.blk s H scope (compEnvC scope cl C X.env) fp) tg (tG W g))
    (hk : ∀ (s : Shared) (H : Hp) (C : Addr) (cl : List (Str × Addr)) (fp : List Addr), PE (X.blk s H scope (compEnvC scope cl C X.env) fp) kx (tE W Γ ck E0))
    (he : ∀ (s : Shared) (H : Hp) (C : Addr) (cl : List (Str × Addr)) (fp : List Addr), PE (X.blk s H scope (compEnvC scope cl C X.env) fp) vx (tE W Γ cv E0)) (hs : ∀ x, foldedSetIterable iter X.env x = pure x) :
    PE X (.DictComp kx vx [⟨tg, iter, [], 0⟩] scope pos) (tE W Γ (.dc g k its ck cv) E) :=
  (pe_dc hc hN hi ok hg (fun _ _ _ _ _ => ts_nil) hk he hs).imp fun σ H Q ⟨q, st, h, f⟩ => dc_turns ho h f
end
end Mp
end
section
/-! Mp: sorted lists of data. -/
namespace Mp
open PySem PySem.Spec
                                                                                                    PyProof.Rows L2

mutual
theorem alike_of : ∀ d e : D, okO d e = true → PySem.W.alike (py d) (py e) = true
  | .int _, .int _, _ => rfl
  | .str _, .str _, _ => rfl
  | .tup xs, .tup ys, h => by
    rw [py, py, PySem.W.alike]
    exact alikes_of xs ys (by simpa only [okO] using h)
  | .non, e, h => by cases e <;> simp [okO] at h
  | .bl _, e, h => by cases e <;> simp [okO] at h
  | .lst _, e, h => by cases e <;> simp [okO] at h
  | .st, e, h => by cases e <;> simp [okO] at h
  | .gl _, e, h => by cases e <;> simp [okO] at h
  | .dic _ _, e, h => by cases e <;> simp [okO] at h
  | .clo _ _, e, h => by cases e <;> simp [okO] at h
  | .int _, .non, h => by simp [okO] at h
  | .int _, .bl _, h => by simp [okO] at h
  | .int _, .str _, h => by simp [okO] at h
  | .int _, .tup _, h => by simp [okO] at h
  | .int _, .lst _, h => by simp [okO] at h
  | .int _, .st, h => by simp [okO] at h
  | .int _, .gl _, h => by simp [okO] at h
  | .int _, .dic _ _, h => by simp [okO] at h
  | .int _, .clo _ _, h => by simp [okO] at h
  | .str _, .non, h => by simp [okO] at h
  | .str _, .bl _, h => by simp [okO] at h
  | .str _, .int _, h => by simp [okO] at h
  | .str _, .tup _, h => by simp [okO] at h
  | .str _, .lst _, h => by simp [okO] at h
  | .str _, .st, h => by simp [okO] at h
  | .str _, .gl _, h => by simp [okO] at h
  | .str _, .dic _ _, h => by simp [okO] at h
  | .str _, .clo _ _, h => by simp [okO] at h
  | .tup _, .non, h => by simp [okO] at h
  | .tup _, .bl _, h => by simp [okO] at h
  | .tup _, .int _, h => by simp [okO] at h
  | .tup _, .str _, h => by simp [okO] at h
  | .tup _, .lst _, h => by simp [okO] at h
  | .tup _, .st, h => by simp [okO] at h
  | .tup _, .gl _, h => by simp [okO] at h
  | .tup _, .dic _ _, h => by simp [okO] at h
  | .tup _, .clo _ _, h => by simp [okO] at h
theorem alikes_of : ∀ xs ys : List D, okOs xs ys = true → PySem.W.alikeAll (pys xs) (pys ys) = true
  | [], _, _ => by simp [pys, PySem.W.alikeAll]
  | _ :: _, [], _ => by simp [pys, PySem.W.alikeAll]
  | x :: xs, y :: ys, h => by
    have h' : okO x y = true ∧ okOs xs ys = true := by simpa only [okOs, Bool.and_eq_true] using h
    rw [pys, pys, PySem.W.alikeAll, alike_of x y h'.1, alikes_of xs ys h'.2]
    rfl
end
theorem okAll_mem {xs : List D} (h : okAll xs = true) {x y : D} (hx : x ∈ xs) (hy : y ∈ xs) : okO x y = true := List.all_eq_true.mp (List.all_eq_true.mp h x hx) y hy
theorem allAlike_of {xs : List D} (h : okAll xs = true) : PySem.W.AllAlike (xs.map py) := fun d hd e he => by
  obtain ⟨x, hx, rfl⟩ := List.mem_map.mp hd
  obtain ⟨y, hy, rfl⟩ := List.mem_map.mp he
  exact alike_of x y (okAll_mem h hx hy)
theorem sortable_of {xs : List D} (h : (xs.all neTup || xs.all noTup) = true) : PySem.W.Sortable (xs.map py) := by
  rcases (Bool.or_eq_true ..).mp h with h | h
  · refine .inl fun d hd => ?_
    obtain ⟨x, hx, rfl⟩ := List.mem_map.mp hd
    have := List.all_eq_true.mp h x hx
    cases x <;> simp only [neTup] at this <;> first | (cases this; done) | skip
    rename_i ys
    cases ys with
    | nil => cases this
    | cons a r => exact ⟨py a, pys r, rfl⟩
  · refine .inr fun d hd => ?_
    obtain ⟨x, hx, rfl⟩ := List.mem_map.mp hd
    have := List.all_eq_true.mp h x hx
    cases x <;> simp only [noTup] at this <;> first | (cases this; done) | (constructor <;> simp [py])
structure SrtOk (xs : List D) : Prop where
  al : PySem.W.AllAlike (xs.map py)
  so : PySem.W.Sortable (xs.map py)
  sh : ∀ d ∈ xs, shp d = true
theorem srtOk_of {xs : List D} (h : srtOk xs = true) : SrtOk xs := by
  unfold srtOk at h
  simp only [Bool.and_eq_true]
                                                                                                    at h
  obtain ⟨⟨h1, h2⟩, h3⟩ := h
  exact ⟨allAlike_of h1, sortable_of h3, fun d hd => List.all_eq_true.mp h2 d hd⟩
theorem shp_dep {d : D} (h : shp d = true) : (py d).depth ≤ 64 := SeqAt.depth_of_shaped h
/-- the values stand for the data -/
def Std (W : Wp) (Z : Zp) (F : Hp) : Value → D → Prop := fun u d => ∃ v, RelV v u ∧ Rep W Z F d v
theorem each_of {W : Wp} {Z : Zp} {F : Hp} : ∀ {ds : List D} {vs : List V} {us : List Value}, Reps W Z F ds vs → Vals vs us → PySem.W.EachIs (Std W Z F) us ds
  | [], vs, us, h, r => by
    have e : vs = [] := h
    subst e
    cases r
    exact .nil
  | d :: ds, vs, us, h, r => by
    obtain ⟨v, t, e, h1, h2⟩ := h
    subst e
    cases r with
    | cons a b => exact .cons ⟨v, a, h1⟩ (each_of h2 b)
theorem of_each {W : Wp} {Z : Zp} {F : Hp} : ∀ {ds : List D} {us : List Value}, PySem.W.EachIs (Std W Z F) us ds → ∃ vs, Reps W Z F ds vs ∧ Vals vs us
  | [], _, h => by
    cases h
    exact ⟨[], rfl, .nil⟩
  | d :: ds, _, h => by
    cases h with
    | cons a b =>
      obtain ⟨v, r, h1⟩ := a
      obtain ⟨vs, h2, h3⟩ := of_each b
      exact ⟨v :: vs, .cons h1 h2, .cons r h3⟩
section
variable {X : Cx} {W : Wp}
theorem each_reads {pins : List (Addr × Obj)} {σ : L2.St} {H : Hp} {s : Shared} {q : Sit} (I : Inv X pins σ H s) : ∀ {ds : List D} {us : List Value}, (∀ d ∈ ds, shp d = true) → PySem.W.EachIs (Std W q.Z (hid q.B H)) us ds → PySem.W.EachIs (fun u d => ∃ as, Reads s.heap u (py d) as) us ds
  | [], _, _, h => by
    cases h
    exact .nil
  | d :: ds, _, hs, h => by
    cases h with
    | cons a b =>
      obtain ⟨v, r, h1⟩ := a
      exact .cons (Dp.reads I (py d) v _ (dp_of d v (shp_lay (hs d List.mem_cons_self)) h1) r) (each_reads I (fun e he => hs e (List.mem_cons_of_mem _ he)) b)
theorem cr_srt (hu : X.A.units + 66 < cLine) : CallR X (.builtin "sorted") (rBi W .srt) := cr_one (fun _ _ => rfl) fun pins s σ H v us Q q st d z I rs s0 r ez k => by
  cases d with
  | lst xs =>
    have ez : (if srtOk xs then some (D.lst (sortD xs)) else none) = some z := ez
    split at ez
    next hm =>
      cases ez
      have ok := srtOk_of hm
      obtain ⟨p, vs, rfl, h1, h2⟩ := s0.lst r
      obtain rfl := Vals.ref1 rs
      obtain ⟨its, rv, hl, hz⟩ := I.list (a := p) (SqL.of h1)
      have e := each_of h2 rv
      refine PySem.W.sorted_data (R := Std W q.Z (hid q.B H)) (enc := py) hl.isList e (each_reads I ok.sh e) ok.al ok.so (by rw [h2.len]; exact hz) (fun b hb => ?_) fun out ho eo => ?_
      · have := shp_dep (ok.sh b hb)
        omega
      · obtain ⟨vs', r', rv'⟩ := of_each eo
        obtain ⟨ep, he'⟩ :=
                                                                                                    PyProof.Rows.sortedAll_at s.heap its out.toArray
        have hlen : vs'.length ≤ sizeLine := by rw [rv'.length, ho, h2.len]; exact hz
        exact ⟨.ref _, upd H (s.heap.objs.size + 1) (.lst vs'), I.laid (t' := s.toks) (fun _ _ => PyProof.Rows.sortedAll_old) (Nat.le_succ _) ⟨hlen, _, ep, rv', he'⟩, rfl, k.lst s0 r' _ (I.hok.fresh (Nat.le_succ _))⟩
    next => cases ez
  | _ => cases ez
end
end Mp
end
section
/-! Mp: sorted(x, key=def). -/
namespace Mp
open PySem PySem.Spec
                                                                                                    PyProof.Rows L2

/-- the heap less one object -/
def lessAt (h : Heap) (k : Addr) : Heap := h.update k fun o => { o with data := .freed }
theorem lessAt_ne {h : Heap} {k b : Addr} (e : b ≠ k) : (lessAt h k).get? b = h.get? b := Heap.get?_update_ne _ _ _ _ e
theorem lessAt_self {h : Heap} {k : Addr} {o : Obj} (e : h.get? k = some o) : (lessAt h k).get? k = none := by
  have h1 := ((Heap.get?_eq_some h k _).mp e).1
  have h2 : (lessAt h k).objs[k]? = some { o with data := .freed } := by
    unfold lessAt
    rw [Heap.objs_update_self, h1]
    rfl
  unfold Heap.get?
  rw [h2]
/-- two new objects -/
def two2 (H : Hp) (a k : Addr) (oa ok : HO) : Hp := upd (upd H a oa) k ok
section
variable {P : Program} {w : PySem.World} {H H' : Hp} {h h' : Heap} {a k : Addr} {oa ok : HO} {fs : List Addr}
theorem two2_old {b : Addr} {o : HO} (ha : H a = none) (hk : H k = none) (e : H b = some o) : two2 H a k oa ok b = some o := by
  unfold two2
  rw [upd_ne (ne_of_none e hk), upd_ne (ne_of_none e ha)]
  exact e
theorem two2_un (kp : ∀ b o, h.get? b = some o → h'.get? b = some o) (za : h.objs.size ≤ a) (zk : h.objs.size ≤ k) (ha : H a = none) (hk : H k = none) : Un fs [] H (two2 H a k oa ok) h h' :=
  ⟨fun b o e _ _ _ => kp b o e, fun b o e _ _ _ => ⟨o.slots, kp b o e⟩, fun b o e n _ => by
    have := Heap.lt_size e
    unfold two2
    rw [upd_ne (Nat.ne_of_lt (Nat.lt_of_lt_of_le this zk)), upd_ne (Nat.ne_of_lt (Nat.lt_of_lt_of_le this za))]
    exact n, fun b o e _ => ⟨o, kp b o e⟩, fun b xs e => two2_old ha hk e, fun b o u e => two2_old ha hk e, fun b ps e => ⟨#[], by rw [two2_old ha hk e]; simp⟩⟩
theorem two2_hok (x : HOk P w H h) (kp : ∀ b o, h.get? b = some o → h'.get? b = some o) (ha : H a = none) (hk : H k = none) (hak : a ≠ k) (na : ObjOk P w (two2 H a k oa ok) h' a oa) (nk : ObjOk P w (two2 H a k oa ok) h' k ok) : HOk P w (two2 H a k oa ok) h' := fun b u e => by
  by_cases e1 : b = k
  · subst e1
    unfold two2 at e
    rw [upd_same] at e
    cases e
    exact nk
  · by_cases e2 : b = a
    · subst e2
      unfold two2 at e
      rw [upd_ne e1, upd_same] at e
      cases e
      exact na
    · unfold two2 at e
      rw [upd_ne e1, upd_ne e2] at e
      exact (x b u e).stay (fun b o _ e => kp b o e) (fun c e => two2_old ha hk e) fun c xs e => two2_old ha hk e
/-- the end: the list at a, nothing at k -/
def endAt (H : Hp) (a k : Addr) (vs : List V) : Hp := fun b => if b = k then none else if b = a then some (.lst vs) else H b
theorem endAt_old {vs : List V} {b : Addr} (h1 : b ≠ k) (h2 : b ≠ a) : endAt H a k vs b = H b := by
  unfold endAt
  rw [if_neg h1, if_neg h2]
end
/-- where the keys are made -/
structure KeyAt (X : Cx) (W : Wp) (q : Sit) (E : XK) (Q : VK) (H0 : Hp) (f : D → M D) (Kf : List D → M D) (xs : List D) (us : List Value) (H1 : Hp) (s : Shared) (a kS : Addr) (e1 : Nat) (i : Nat) (s' : Shared) : Prop where
  go : ∃ H st ks kvs xvs, s'.os = s.os ∧ AllBare s'.gens ∧ Un (frs X.stack) [] H1 H s.heap s'.heap ∧ HOk X.prog X.w H s'.heap ∧ H a = some (KnO (seqObj "list" #[] e1)) ∧ H kS = some (.lst kvs) ∧ Grow q.Z H1 H ∧ Wld W q.Z st H ∧
    Reps W q.Z (hid (kS :: q.B) H) ks kvs ∧ Reps W q.Z (hid (kS :: q.B) H) xs xvs ∧ Vals xvs us ∧ ks.length = i ∧ Fin W q E (PD W q H0 true Q) (bnd (nox (mapM' f (xs.drop i))) (fun zs => Kf (ks ++ zs)) st) H1
section
variable {X : Cx} {W : Wp} {Γ : Gam} {E : XK} {k : Nat}
theorem inv_of {pins : List (Addr × Obj)} {σ : L2.St} {H H' : Hp} {s s' : Shared} (I : Inv X pins σ H s) (os : s'.os = s.os) (bare : AllBare s'.gens) (un : Un (frs X.stack) [] H H' s.heap s'.heap) (hok : HOk X.prog X.w H' s'.heap) : Inv X pins σ H' s' :=
  I.call' os un hok bare fun b z => absurd z (by simp)
/-- a turn of the keys -/
theorem key_turn {x : Str} {fa : Addr} {fd : FuncData} {ps : List Str} {pins : List (Addr × Obj)} {σ : L2.St} {H0 H1 : Hp} {s s1 : Shared} {Q : VK} {q : Sit} {xs : List D} {us : List Value} {a kS : Addr} {e1 i : Nat} {u : Value} {Kf : List D → M D}
    (F : FnG X.prog X.w X.K X.mg X.base CX0 k fa fd ps (spD W Γ x ps.length)) (hr : RoomG k X.A.in1.in1) (hb : BindP X.K fd ps 1 [] []) (hp1 : ps.length = 1) (I : Inv X pins σ H1 s) (s0 : ∃ st, Sit0 W q st H1) (ha : H1 a = none) (hk : H1 kS = none) (hak : a ≠ kS)
    (hu : us[i]? = some u) (c : KeyAt X W q E Q H0 (fun d => Γ x [d]) Kf xs us H1 s a kS e1 i s1) (hz : us.length ≤ sizeLine) {R : Value → Shared → Prop} {E' : Value → Shared → Prop}
    (h : ∀ v s2 kA n, s2.heap.get? kS = some (seqObj "list" (List.toArray kA) n) → kA.length ≤ sizeLine → kA.length = i → (∀ h', (∀ b o, b ≠ kS → s2.heap.get? b = some o → h'.get? b = some o) → (∃ n, h'.get? kS = some (seqObj "list" (List.toArray (kA ++ [v])) n)) → KeyAt X W q E Q H0 (fun d => Γ x [d]) Kf xs us H1 s a kS e1 (i + 1) { s2 with heap := h' }) → R v s2) :
    wpAny (model X.prog X.w) X.A.in1.in1 (call (.ref fa) [u]) R E' s1 := by
  obtain ⟨H, st, ks, kvs, xvs, os, bare, un, hok, hA, hK, gr, w, rk, rx, rv, lk, f⟩ := c.go
  obtain ⟨st0, s0⟩ := s0
  have I1 := inv_of I os bare un hok
  have hil : i < us.length := (List.getElem?_eq_some_iff.mp hu).1
  have hxl : xs.length = us.length := by rw [rx.len, rv.length]
  obtain ⟨v, hv, ruv⟩ : ∃ v, xvs[i]? = some v ∧ RelV v u := by
    have hxv : i < xvs.length := by rw [rv.length]; exact hil
    obtain ⟨u', e1, e2⟩ := rv.get (i := i) (x := xvs[i]) (by simp [hxv])
    rw [hu] at e1
    cases e1
    exact ⟨xvs[i], by simp [hxv], e2⟩
  obtain ⟨d, hd, rd⟩ := rx.getV hv
  have hx : xs.drop i = d :: xs.drop (i + 1) := by
    obtain ⟨hi', e⟩ := List.getElem?_eq_some_iff.mp hd
    rw [← e]
    exact List.drop_eq_getElem_cons hi'
  rw [hx, mapM', nox_bnd, bnd_assoc] at f
  have nkB : kS ∉ q.B := s0.no hk
  have e0 : Env0 X.prog X.w X.K X.mg X.base X.A.in1.in1 X.stack s1 H := I1.env0.in1.in1
  have s1' : Sit0 W ⟨q.Z, kS :: q.B, []⟩ st H := ⟨List.mem_cons_of_mem _ s0.sS, List.mem_cons_of_mem _ s0.sL, w, fun b hb => by
    rcases List.mem_cons.mp hb
                                                                                                    with z | z
    · exact .inl ⟨_, z ▸ hK⟩
    · exact mu_grow (s0.hB b z) gr w⟩
  have hbd := hb.to s1 [u] [] [u] I1.kIn rfl rfl rfl
  refine wpAny_call (codeAny_mono (F.run X.A.in1.in1 X.stack s1 H ⟨[u], []⟩ [u] [v] (fun y H2 => ∃ dy st2, Grow q.Z H H2 ∧ Wld W q.Z st2 H2 ∧ Rep W q.Z (hid (kS :: q.B) H2) dy y ∧ Fin W q E (PD W q H0 true Q) (bnd (nox (mapM' (fun d => Γ x [d]) (xs.drop (i + 1)))) (fun zs => Kf (ks ++ [dy] ++ zs)) st2) H1) E0 hr e0 hbd (.cons ruv .nil) ⟨hp1.symm, ⟨q.Z, kS :: q.B, []⟩, st, [d], s1', .cons rd rfl, ?_⟩) fun res s2 hq => ?_)
  · refine f.splitB gr fun dy st5 f5 H5 g5 w5 y5 r5 => ⟨dy, st5, g5, w5, r5, ?_⟩
    simpa [nox_bnd, List.append_assoc] using f5
  · cases res with
    | error e => exact
                                                                                                    False.elim hq
    | ok fl =>
      cases fl with
      | next => exact False.elim hq
      | brk => exact False.elim hq
      | cont => exact False.elim hq
      | ret v2 =>
        obtain ⟨y, H2, os2, bare2, un2, hok2, ry, dy, st2, g2, w2, r2, f2⟩ := hq
        have unA := un.trans un2
        have keep : ∀ {b : Addr} {o : HO}, H b = some o → b ≠ q.Z.aS → b ≠ q.Z.aL → (∀ ps, o ≠ .tbl ps) → H2 b = some o := fun e n1 n2 n3 => g2.keep _ _ e n1 n2 n3
        have neS : ∀ {b : Addr}, H1 b = none → b ≠ q.Z.aS ∧ b ≠ q.Z.aL := fun {b} e => ⟨fun z => (by have := s0.w.s; rw [← z, e] at this; cases this), fun z => (by have := s0.w.l; rw [← z, e] at this; cases this)⟩
        have hA2 := keep hA (neS ha).1 (neS ha).2 fun ps z => by cases z
        have hK2 := keep hK (neS hk).1 (neS hk).2 fun ps z => by cases z
        obtain ⟨hz2, its, n, rvk, hob⟩ := hok2 kS _ hK2
        have lk2 : its.length = i := by rw [← rvk.length, ← rk.len]; exact lk
        have leK : Le (hid (kS :: q.B) H) (hid (kS :: q.B) H2) := g2.le (List.mem_cons_of_mem _ s0.sS) (List.mem_cons_of_mem _ s0.sL)
        refine h v2 s2 its n hob (by omega) lk2 fun h' kp ⟨n', hn'⟩ => ⟨?_⟩
        have muK : Mut (H2 kS) := by rw [hK2]; trivial
        have kp' : ∀ b o, b ≠ kS → s2.heap.get? b = some o → h'.get? b = some o := kp
        have newK : ObjOk X.prog X.w (upd H2 kS (.lst (kvs ++ [y]))) h' kS (.lst (kvs ++ [y])) := ⟨by rw [List.length_append, rvk.length, lk2]; simp; omega, its ++ [v2], n', rvk.append (.cons ry .nil), hn'⟩
        have hokN := hok2.write (h' := h') muK (.inl rfl) kp' ⟨_, hn'⟩ newK
        have unN : Un (frs X.stack) [] H1 (upd H2 kS (.lst (kvs ++ [y]))) s.heap h' := unA.trans (Un.write muK (.inl rfl) kp' ⟨_, hn'⟩)
        refine ⟨upd H2 kS (.lst (kvs ++ [y])), st2, ks ++ [dy], kvs ++ [y], xvs, os2.trans os, bare2, unN, hokN, by rw [upd_ne hak]; exact hA2, upd_same, grow_put (gr.trans g2) hk, wld_new s0.w hk w2 (.inl ⟨_, hK2⟩), Reps.mono (le_put List.mem_cons_self) _ _ ((Reps.mono leK _ _ rk).app (.cons r2 rfl)), Reps.mono (le_put List.mem_cons_self) _ _ (Reps.mono leK _ _ rx), rv, by simp [lk], f2⟩
end
section
variable {P : Program} {w : PySem.World} {H1 Hn : Hp} {h hn he : Heap} {a k : Addr} {vs : List V} {fs : List Addr}
theorem end_un (u : Un fs [] H1 Hn h hn) (kp : ∀ b o, b ≠ a → b ≠ k → hn.get? b = some o → he.get? b = some o) (za : h.objs.size ≤ a) (zk : h.objs.size ≤ k) (ha : H1 a = none) (hk : H1 k = none) : Un fs [] H1 (endAt Hn a k vs) h he := by
  have far : ∀ {b : Addr} {o : Obj}, h.get? b = some o → b ≠ a ∧ b ≠ k := fun e => ⟨Nat.ne_of_lt (Nat.lt_of_lt_of_le (Heap.lt_size e) za), Nat.ne_of_lt (Nat.lt_of_lt_of_le (Heap.lt_size e) zk)⟩
  have off : ∀ {b : Addr} {o : HO}, H1 b = some o → endAt Hn a k vs b = Hn b := fun e => endAt_old (ne_of_none e hk) (ne_of_none e ha)
  refine ⟨fun b o e n hb hx => kp b o (far e).1 (far e).2 (u.keep b o e n hb hx), fun b o e n hb hx => ?_, fun b o e n hx => ?_, fun b o e hx => ?_, fun b xs e => by rw [off e]; exact u.tups b xs e, fun b o v e => by rw [off e]; exact u.frzs b o v e, fun b ps e => by rw [off e]; exact u.tbls b ps e⟩
  · obtain ⟨sl, g⟩ := u.slot b o e n hb hx
    exact ⟨sl, kp b _ (far e).1 (far e).2 g⟩
  · rw [endAt_old (far e).2 (far e).1]
    exact u.free b o e n hx
  · obtain ⟨o', g⟩ := u.there b o e hx
    exact ⟨o', kp b _ (far e).1 (far e).2 g⟩
theorem end_hok {oa : Obj} {kvs : List V} (x : HOk P w Hn hn) (kp : ∀ b o, b ≠ a → b ≠ k → hn.get? b = some o → he.get? b = some o) (hA : Hn a = some (KnO oa)) (hK : Hn k = some (.lst kvs)) (new : ObjOk P w (endAt Hn a k vs) he a (.lst vs)) : HOk P w (endAt Hn a k vs) he := fun b u e => by
  have off : ∀ {c : Addr} {o : HO}, Hn c = some o → (∀ o', o ≠ KnO o') → (∀ l, o ≠ .lst l) → c ≠ k ∧ c ≠ a := fun {c o} e n1 n2 => ⟨fun z => by
    rw [z, hK] at e
    exact n2 _ (Option.some.inj e).symm, fun z => by
    rw [z, hA] at e
    exact n1 _ (Option.some.inj e).symm⟩
  by_cases e1 : b = k
  · unfold endAt at e
    rw [if_pos e1] at e
    cases e
  · by_cases e2 : b = a
    · subst e2
      unfold endAt at e
      rw [if_neg e1, if_pos rfl] at e
      cases e
      exact new
    · rw [endAt_old e1 e2] at e
      refine (x b u e).stay (fun c o hc g => ?_) (fun c g => ?_) fun c xs g => ?_
      · rcases hc with z | z
        · exact kp c o (z ▸ e2) (z ▸ e1) g
        · obtain ⟨n1, n2⟩ := off z (fun _ z => by cases z) (fun _ z => by cases z)
          exact kp c o n2 n1 g
      · obtain ⟨n1, n2⟩ := off g (fun _ z => by cases z) (fun _ z => by cases z)
        rw [endAt_old n1 n2]
        exact g
      · obtain ⟨n1, n2⟩ := off g (fun _ z => by cases z) (fun _ z => by cases z)
        rw [endAt_old n1 n2]
        exact g
theorem end_wld {W : Wp} {Z : Zp} {st0 st : S} {oa : Obj} {kvs : List V} (w0 : Wld W Z st0 H1) (ha : H1 a = none) (hk : H1 k = none) (wn : Wld W Z st Hn) (hA : Hn a = some (KnO oa)) (hK : Hn k = some (.lst kvs)) : Wld W Z st (endAt Hn a k vs) := by
  have old : ∀ {b : Addr} {o : HO}, H1 b = some o → endAt Hn a k vs b = Hn b := fun e => endAt_old (ne_of_none e hk) (ne_of_none e ha)
  have off : ∀ {c : Addr} {o : HO}, Hn c = some o → (∀ o', o ≠ KnO o') → (∀ l, o ≠ .lst l) → endAt Hn a k vs c = some o := fun {c o} e n1 n2 => by
    rw [endAt_old (fun z => by rw [z, hK] at e; exact n2 _ (Option.some.inj e).symm) (fun z => by rw [z, hA] at e; exact n1 _ (Option.some.inj e).symm)]
    exact e
  refine ⟨by rw [old w0.s]; exact wn.s, by rw [old w0.c]; exact wn.c, by rw [old w0.l]; exact wn.l, wn.len, wn.pos, wn.few, wn.at0, fun P hP => ?_, fun p hp => ?_⟩
  · obtain ⟨ps, e1, e2⟩ := wn.t P hP
    exact ⟨ps, off e1 (fun _ z => by cases z) (fun _ z => by cases z), e2⟩
  · obtain ⟨ps, e1, e2, e3⟩ := wn.lt p hp
    refine ⟨ps, off e1 (fun _ z => by cases z) (fun _ z => by cases z), e2, fun pos cv hc => ?_⟩
    obtain ⟨c, g1, g2⟩ := e3 pos cv hc
    exact ⟨c, g1, off g2 (fun _ z => by unfold LamX.CodeO at z; cases z) (fun _ z => by unfold LamX.CodeO at z; cases z)⟩
theorem end_grow {Z : Zp} (g : Grow Z H1 Hn) (ha : H1 a = none) (hk : H1 k = none) : Grow Z H1 (endAt Hn a k vs) :=
  ⟨fun b o e h1 h2 h3 => by rw [endAt_old (ne_of_none e hk) (ne_of_none e ha)]; exact g.keep b o e h1 h2 h3, fun b e z => by
    by_cases e1 : b = k
    · exact e (e1 ▸ hk)
    · by_cases e2 : b = a
      · exact e (e2 ▸ ha)
      · rw [endAt_old e1 e2] at z
        exact g.there b e z⟩
end
theorem each_zip {α : Type} {R : Value → D → Prop} : ∀ {us : List Value} {ks : List α} {xs : List D}, PySem.W.EachIs R us xs → ks.length = xs.length → PySem.W.EachIs (fun u (p : α × D) => R u p.2) us (ks.zip xs)
  | _, [], [], h, _ => by
    cases h
    exact .nil
  | _, [], _ :: _, _, e => by simp at e
  | _, _ :: _, [], _, e => by simp at e
  | _, k :: ks, x :: xs, h, e => by
    cases h with
    | cons a b => exact .cons a (each_zip b (by simpa using e))
theorem each_fst {R : Value → PyData → Prop} : ∀ {us : List Value} {ks xs : List D}, PySem.W.EachIs (fun u d => R u (py d)) us ks → ks.length = xs.length → PySem.W.EachIs R us ((ks.zip xs).map fun p => py p.1)
  | _, [], [], h, _ => by
    cases h
    exact .nil
  | _, [], _ :: _, _, e => by simp at e
  | _, _ :: _, [], _, e => by simp at e
  | _, k :: ks, x :: xs, h, e => by
    cases h with
    | cons a b => exact .cons a (each_fst b (by simpa using e))
theorem zip_fst : ∀ {ks xs : List D}, ks.length = xs.length → ((ks.zip xs).map fun p => py p.1) = ks.map py
  | [], [], _ => rfl
  | [], _ :: _, e =>
                                                                                                    by simp at e
  | _ :: _, [], e =>
                                                                                                    by simp at e
  | k :: ks, x :: xs, e => by
    rw [List.zip_cons_cons, List.map_cons, zip_fst (by simpa using e), List.map_cons]
theorem each_snd {R : Value → D → Prop} : ∀ {us : List Value} {ps : List (D × D)}, PySem.W.EachIs (fun u (p : D × D) => R u p.2) us ps → PySem.W.EachIs R us (ps.map (·.2))
  | _, [], h => by
    cases h
    exact .nil
  | _, p :: ps, h => by
    cases h with
    | cons a b => exact .cons a (each_snd b)
def keyF (xs ks : List D) : M D := if srtOk ks then ret (.lst ((sortK (ks.zip xs)).map (·.2))) else no
def rKey (W : Wp) (Γ : Gam) (x : Str) (fa : Addr) (E : XK) : List V → List V → Hp → VK → Prop := fun vs zs H Q => zs = [.ref fa] ∧ ∃ q st xs p us H0, vs = [.ref p] ∧ Sit0 W q st H ∧ H p = some (.lst us) ∧ Reps W q.Z (hid q.B H) xs us ∧ Grow q.Z H0 H ∧
  Fin W q E (PD W q H0 true Q) (bnd (nox (mapM' (fun d => Γ x [d]) xs)) (keyF xs) st) H
section
variable {X : Cx} {W : Wp} {Γ : Gam} {E : XK} {k : Nat}
set_option maxHeartbeats
                                                                                                    1000000 in
theorem cr_srtk {x : Str} {fa : Addr} {fd : FuncData} {ps : List Str} (F : FnG X.prog X.w X.K X.mg X.base CX0 k fa fd ps (spD W Γ x ps.length)) (hr : RoomG k X.A.in1.in1) (hb : BindP X.K fd ps 1 [] []) (hp1 : ps.length = 1) (hu : X.A.in1.in1.units + 64 < cLine) :
    CallRK X (.builtin "sorted") [Str.ofString "key"] (rKey W Γ x fa E) := by
  intro pins s σ H vs zs us ws Q I rvs rzs h
  obtain ⟨rfl, q, st, xs, p, ys, H0, rfl, s0, hp, rx, g0, f⟩ := h
  obtain rfl := Vals.ref1 rvs
  obtain rfl := Vals.ref1 rzs
  obtain ⟨its, rv, hl, hz⟩ := I.list (a := p) (SqL.of hp)
  have hzi : its.length ≤ sizeLine := by rw [← rv.length]; exact hz
  have lxi : xs.length = its.length := by rw [rx.len, rv.length]
  refine PySem.W.sorted_of_sort hl.isList hzi (PyProof.Rows.ksk_s1 _ _) (fun _ => PyProof.Rows.ksk_l1 _ _) fun E' => ?_
  show wpAny _ _ (Builtin.«list.sort» ⟨[.ref (s.heap.objs.size + 1)], [(Str.ofString "key", .ref fa)]⟩) _ _ _
  rw [PyProof.Rows.ksk_t1]
  generalize ea : s.heap.objs.size + 1 = a
  have za : s.heap.objs.size ≤ a := by omega
  have hoL : (PySem.W.copyHeap s.heap its).get? a = some (seqObj "list" its.toArray 0) := ea ▸ PySem.W.copyHeap_at s.heap its
  have kp1 : ∀ b o, s.heap.get? b = some o → (PySem.W.copyHeap s.heap its).get? b = some o := fun b o e => PySem.W.copyHeap_old e
  have alt : a < (PySem.W.copyHeap s.heap its).objs.size := Heap.lt_size hoL
  obtain ⟨e1, ho1⟩ : ∃ e1, ((PySem.W.copyHeap s.heap its).update a (Obj.mapSeq fun _ => (#[] : Array Value))).get? a = some (seqObj "list" #[] e1) := ⟨_, get?_update_seq hoL fun _ => #[]⟩
  unfold PyProof.Rows.ksk_tree
  refine wpAny_bind (listItems_at hoL rfl ?_)
  refine wpAny_bind (listUpdate_at hoL rfl ?_ (by rw [List.size_toArray]; exact hzi) (Nat.zero_le _))
  refine wpAny_bind
                                                                                                    (seqEpoch_at ho1 rfl ?_)
  refine wpAny_bind (wpAny_newTuple ?_ (by show its.length ≤ _; exact hzi))
  refine wpAny_bind
                                                                                                    (wpAny_newList ?_ (Nat.zero_le _))
  refine wpAny_holding ?_
  have ekS : (((PySem.W.copyHeap s.heap its).update a (Obj.mapSeq fun _ => (#[] : Array Value))).push (seqObj "tuple" its.toArray 0)).objs.size = (PySem.W.copyHeap s.heap its).objs.size + 1 := by rw [size_push', Heap.size_update]
  generalize hkS : (((PySem.W.copyHeap s.heap its).update a (Obj.mapSeq fun _ => (#[] : Array Value))).push (seqObj "tuple" its.toArray 0)).objs.size = kS at ekS
  have hak : a ≠ kS := by omega
  have zk : s.heap.objs.size ≤ kS := by omega
  generalize hh2 : (((PySem.W.copyHeap s.heap its).update a (Obj.mapSeq fun _ => (#[] : Array Value))).push (seqObj "tuple" its.toArray 0)).push (seqObj "list" #[] 0) = h2
  have kp2 : ∀ b o, s.heap.get? b = some o → h2.get? b = some o := fun b o e => by
    rw [← hh2]
    exact PySem.W.sortingHeap_old (Nat.ne_of_lt (Nat.lt_of_lt_of_le (Heap.lt_size e) za)) (kp1 b o e)
  have hA2 : h2.get? a = some (seqObj "list" #[] e1) := by
    rw [← hh2]
    exact Heap.get?_push_of_some _ (Heap.get?_push_of_some _ ho1)
  have hK2 : h2.get? kS = some (seqObj "list" #[] 0) := by
    rw [← hh2, ← hkS]
    exact Heap.get?_push_size
                                                                                                    _ rfl
  have ha : H a = none := I.hok.fresh za
  have hk : H kS = none := I.hok.fresh zk
  have start : KeyAt X W q E Q H0 (fun d => Γ x [d]) (keyF xs) xs its H s a kS e1 0 { s with heap := h2 } := by
    have nk : ObjOk X.prog X.w (two2 H a kS (KnO (seqObj "list" #[] e1)) (.lst [])) h2 kS (.lst []) := ⟨Nat.zero_le _, [], 0, .nil, hK2⟩
    have na : ObjOk X.prog X.w (two2 H a kS (KnO (seqObj "list" #[] e1)) (.lst [])) h2 a (KnO (seqObj "list" #[] e1)) := ⟨hA2, trivial, ⟨_, hA2⟩, fun _ _ _ _ => trivial⟩
    have g : Grow q.Z H (two2 H a kS (KnO (seqObj "list" #[] e1)) (.lst [])) := (Grow.new ha).trans (Grow.new (by rw [upd_ne (Ne.symm hak)]; exact hk))
    have nk2 : upd H a (KnO (seqObj "list" #[] e1)) kS = none := by rw [upd_ne (Ne.symm hak)]; exact hk
    have w2 : Wld W q.Z st (two2 H a kS (KnO (seqObj "list" #[] e1)) (.lst [])) := (s0.w.new ha).new nk2
    have nkB : kS ∉ q.B := s0.no hk
    refine ⟨_, st, [], [], ys, rfl, I.bare, two2_un kp2 za zk ha hk, two2_hok I.hok kp2 ha hk hak na nk, by unfold two2; rw [upd_ne hak, upd_same], upd_same, g, w2, rfl, Reps.mono (fun b o e _ => ?_) _ _ rx, rv, rfl, ?_⟩
    · obtain ⟨n, e⟩ := hid_some e
      exact hid_of (by simp [n, ne_of_none e hk]) (two2_old ha hk e)
    · rw [List.drop_zero]
      exact f
  show wpAny _ _ (PyProof.Rows.ksk_rest a (.ref fa) false its.toArray e1 (.ref kS)) _ _ { s with heap := h2 }
  unfold PyProof.Rows.ksk_rest
  refine wpAny_bind
                                                                                                    (wpAny_rule ?_)
  rw [List.forIn_toArray]
  refine wpAny_bind (PyProof.Rows.ksk_fold (fun i s' => KeyAt X W q E Q H0 (fun d => Γ x [d]) (keyF xs) xs its H s a kS e1 i s') its 0 _ start ?step ?done)
  case step =>
    intro j u s' hu' c
    rw [Nat.zero_add] at c ⊢
    refine wpAny_bind (wpAny_attempt (key_turn F hr hb hp1 I ⟨st, s0⟩ ha hk hak hu' c hzi fun v s2 kA n hob hz1 hz2 next => ?_))
    have hjl : j < its.length := (List.getElem?_eq_some_iff.mp hu').1
    try dsimp only
    obtain ⟨c2, hc2⟩ : ∃ c2, (s2.heap.update kS (Obj.mapSeq (·.push v))).get? kS = some (seqObj "list" (kA.toArray.push v) c2) := ⟨_, get?_update_seq hob (·.push v)⟩
    have s1 := Heap.SameBut.update s2.heap kS (Obj.mapSeq (·.push v))
    refine wpAny_bind (listUpdate_at hob rfl ?_ (by rw [List.size_toArray]; exact hz1) (by rw [Array.size_push, List.size_toArray]; omega))
    refine wpAny_pure ⟨rfl, ?_⟩
    exact next _ (fun b o hb' e => (s1.2 b hb').trans e) ⟨c2, by rw [hc2]; simp⟩
  case done =>
    intro s' c
    rw [Nat.zero_add] at c
    obtain ⟨Hn, stn, ks, kvs, xvs, os, bare, un, hok, hA, hK, gr, w, rk, rxn, rvn, lk, fn⟩ := c.go
    have hd : xs.drop its.length = [] := by rw [← lxi]; exact List.drop_length
    rw [hd] at fn
    have fn : Fin W q E (PD W q H0 true Q) (keyF xs (ks ++ []) stn) H := fn
    rw [List.append_nil] at fn
    unfold keyF at fn
    obtain ⟨sok, fn⟩ := fn.if_
    have ok := srtOk_of sok
    have In := inv_of I os bare un hok
    obtain ⟨hzk, keys, nk, rkv, hob⟩ := hok kS _ hK
    obtain ⟨hAo, _⟩ := hok a _ hA
    have lkx : ks.length = xs.length := by rw [lk, lxi]
    have lkeys : keys.length = its.length := by rw [← rkv.length, ← rk.len, lk]
    try dsimp only
    refine wpAny_bind (listItems_at hob rfl ?_)
    have ek : PySem.W.EachIs (fun u d => ∃ as, Reads s'.heap u d as) keys ((ks.zip xs).map fun p => py p.1) := each_fst (each_reads (q := ⟨q.Z, kS :: q.B, []⟩) In ok.sh (each_of rk rkv)) lkx
    have ezf := zip_fst lkx
    have hS := PySem.W.SortsAt.data (prog := X.prog) (w := X.w) (A := X.A.in1.in1) (s := s') ek (by rw [ezf]; exact ok.al) (by rw [ezf]; exact ok.so) (fun d hd => by
      rw [ezf] at hd
      obtain ⟨b, hb', rfl⟩ := List.mem_map.mp hd
      have := shp_dep (ok.sh b hb')
      omega)
    have klist : keys.toArray.toList = keys := by simp
    refine PySem.W.keyH_end (b := false) (keys := keys.toArray) (h₁ := lessAt s'.heap kS) (vs := its) (fun b o hb' e => ?_) (lessAt_self hob) hob hAo (Ne.symm hak) (by rw [klist]; exact hS) (by rw [List.size_toArray]; exact lkeys) hzi fun h3 tk3 c3 k3 n3 => ⟨rfl, ?_⟩
    · by_cases z : b = kS
      · rw [z, lessAt_self hob] at e
        cases e
      · rw [lessAt_ne z] at e
        exact e
    have kp3 : ∀ b o, b ≠ a → b ≠ kS → s'.heap.get? b = some o → h3.get? b = some o := fun b o h1 h2' e => k3 b o h1 (by rw [lessAt_ne h2']; exact e)
    have eo := PySem.W.keyedOut_each (rev := false) (β := D × D) (R := fun u p => Std W q.Z (hid q.B H) u p.2) (bs := ks.zip xs) (vs := its) (fun p => py p.1) ⟨s'.heap, keys, by rw [ezf]; exact ok.al, rfl, ek⟩ (each_zip (each_of rx rv) lkx)
    rw [klist] at n3
    obtain ⟨vs', r', rv'⟩ := of_each (each_snd eo)
    have hlen : vs'.length = its.length := by
      rw [rv'.length]
      exact PySem.W.sortVals_length false lkeys
    have new : ObjOk X.prog X.w (endAt Hn a kS vs') h3 a (.lst vs') := ⟨by rw [hlen]; exact hzi, _, c3, rv', n3⟩
    have hokE := end_hok (vs := vs') hok kp3 hA hK new
    have unE := end_un (vs := vs') un kp3 za zk ha hk
    have gE : Grow q.Z H (endAt Hn a kS vs') := end_grow gr ha hk
    have aA : endAt Hn a kS vs' a = some (.lst vs') := by
      unfold endAt
      rw [if_neg hak, if_pos rfl]
    have nB : a ∉ q.B := s0.no ha
    refine ⟨.ref a, endAt Hn a kS vs', inv_of I os bare unE hokE, rfl, ?_⟩
    refine fn _ gE (end_wld s0.w ha hk w hA hK) _ ⟨⟨a, vs', rfl, hid_of nB aA, Reps.mono (s0.le gE) _ _ r'⟩, fun _ ds e => ?_⟩
    cases e
    refine ⟨a, vs', rfl, g0.none ha, aA, Reps.mono (F := hid q.B H) (fun b o hb' nt => ?_) _ _ r'⟩
    obtain ⟨n, e⟩ := hid_some hb'
    exact hid_of (by simp [n, ne_of_none e ha]) (hid_some (s0.le gE b o hb' nt)).2
theorem r_srtk {x sx : Str} {a : Expr} {A : T} {pos p p2 kp : Pos} {pats : List (Nat × List Str × List Nat)} (hsx : sx = "sorted") (Df : DefOk X.prog X.w X.K X.mg X.base CX0 k W Γ x pats) (hr : RoomG k X.A.in1.in1) (hu : X.A.in1.in1.units + 64 < cLine) (hg : Gl X sx) (hmg : X.mg sx = none) (hg2 : Gl X x) (hm : (1, [], []) ∈ pats)
    (hdb : (x == ("__debug__" : Str)) = false) (ha : PE X a (tE W Γ A E)) (hs : noStar [a] = true) : PE X (.Call (.Name sx p) [a] [⟨some "key", .Name x p2, kp⟩] pos) (tE W Γ (.srtk x A) E) := by
  subst hsx
  obtain ⟨fa, fd, ps, hmx, hkp, F, hpat⟩ := Df.ex
  obtain ⟨hb, hlen⟩ := hpat _ hm
  have hp1 : ps.length = 1 := (hlen [.non] rfl [.non] rfl).symm
  obtain ⟨s1, s2⟩ := star_one (env := X.env) hs
  refine (pe_callBK (cr_srtk (E := E) F hr hb hp1 hu) hg hmg rfl (r_cons ha r_nil s1) (pk_cons (pe_glob hg2 hmx (v := .ref fa) rfl hdb) pk_nil) (he := by
    show backTo _ (starEach [a] X.env) = _
    rw [s1]; rfl) (hpl := star_any hs)).imp fun σ H Q ⟨q, st, h, f⟩ => ?_
  have h' : At W q st (varss [A]) σ H := h.sub fun i hi => by
    simp only [varss, List.append_nil] at hi
    simpa [vars] using hi
  have f' : Fin W q E (PD W q H true Q) (bnd (evs Γ q.ρ [A]) (fun ds => bnd (ofO ds[0]?) fun d => bnd (ofO (lstD d)) fun xs => bnd (nox (mapM' (fun d => Γ x [d]) xs)) (keyF xs)) st) H := by
    rw [evs1, bnd_assoc]
    exact f
  refine many1 h' f' fun d st1 H1 v a' g r f1 => ?_
  obtain ⟨d', e1, f1⟩ := f1.ofO
  cases e1
  obtain ⟨xs, e2, f1⟩ := f1.ofO
  cases d <;> simp only [lstD] at e2 <;> first | (cases e2; done) | skip
  cases e2
  obtain ⟨p0, us, rfl, hp, rx⟩ := a'.s0.lst r
  exact ⟨rfl, q, st1, _, p0, us, H, rfl, a'.s0, hp, rx, g, f1⟩
end
end Mp
end
section
/-! Mp: a def's slots, its own lists. -/
namespace Mp
open PySem PySem.Spec
                                                                                                    PyProof.Rows L2

abbrev Ow := List (Nat × Addr)
def owB (ow : Ow) (B : List Addr) : List Addr := ow.map (·.2) ++ B
def owOff (ow : Ow) (vs : List Nat) : Ow := ow.filter fun p => !vs.contains p.1
theorem off_mem {ow : Ow} {vs : List Nat} {p : Nat × Addr} : p ∈ owOff ow vs ↔ p ∈ ow ∧ p.1 ∉ vs := by
  unfold owOff
  rw [List.mem_filter]
  simp
theorem owB_mem {ow : Ow} {B : List Addr} {a : Addr} : a ∈ owB ow B ↔ (∃ i, (i, a) ∈ ow) ∨ a ∈ B := by
  unfold owB
  rw [List.mem_append, List.mem_map]
  exact ⟨fun h => h.imp (fun ⟨p, h1, h2⟩ => ⟨p.1, h2 ▸ h1⟩) id, fun h => h.imp (fun ⟨i, h1⟩ => ⟨_, h1, rfl⟩) id⟩
theorem off_sub {ow : Ow} {vs : List Nat} {B : List Addr} {a : Addr} (h : a ∈ owB (owOff ow vs) B) : a ∈ owB ow B := by
  rw [owB_mem] at h ⊢
  exact h.imp (fun ⟨i, h⟩ => ⟨i, (off_mem.mp h).1⟩) id
theorem hid_sub {B B' : List Addr} {H : Hp} (h : ∀ a ∈ B', a ∈ B) : Le (hid B H) (hid B' H) := fun a o e _ => by
  obtain ⟨n, e⟩ := hid_some e
  exact hid_of (fun z => n (h a z)) e
/-- the entry of a def -/
structure Ent where
  Z : Zp
  B : List Addr
  H : Hp
  M : List (List Addr × Hp)
/-- what was in sight at the mark stays -/
structure MarkOk (Z : Zp) (B0 : List Addr) (m : List Addr × Hp) (ow : Ow) (H : Hp) : Prop where
  sS : Z.aS ∈ m.1
  sL : Z.aL ∈ m.1
  sub : ∀ a ∈ B0, a ∈ m.1
  keep : ∀ a o, m.2 a = some o → a ∉ m.1 → (∀ ps, o ≠ .tbl ps) → H a = some o
  fro : ∀ a ∈ m.1, H a ≠ none
  there : ∀ a, m.2 a ≠ none → H a ≠ none
  nw : ∀ p ∈ ow, p.2 ∈ m.1 ∨ m.2 p.2 = none
section
variable {Z : Zp} {B0 : List Addr} {m : List Addr × Hp} {ow ow' : Ow} {H H' : Hp}
theorem MarkOk.grow (k : MarkOk Z B0 m ow H) (g : Grow Z H H') : MarkOk Z B0 m ow H' :=
  ⟨k.sS, k.sL, k.sub, fun a o e n t => g.keep a o (k.keep a o e n t) (fun z => n (z ▸ k.sS)) (fun z => n (z ▸ k.sL)) t, fun a ha => g.there a (k.fro a ha), fun a ha => g.there a (k.there a ha), k.nw⟩
theorem MarkOk.less (k : MarkOk Z B0 m ow H) (h : ∀ p ∈ ow', p ∈ ow) : MarkOk Z B0 m ow' H := ⟨k.sS, k.sL, k.sub, k.keep, k.fro, k.there, fun p hp => k.nw p (h p hp)⟩
theorem MarkOk.more (k : MarkOk Z B0 m ow H) {i : Nat} {p : Addr} (hp : H p = none) : MarkOk Z B0 m ((i, p) :: ow) H := ⟨k.sS, k.sL, k.sub, k.keep, k.fro, k.there, fun q hq => by
  rcases List.mem_cons.mp hq with z | z
  · rw [z]
    cases e : m.2 p with
    | none => exact .inr rfl
    | some o => exact absurd hp (k.there p (by rw [e]; simp))
  · exact k.nw q z⟩
end
structure EnvAt (W : Wp) (n : Ent) (ow : Ow) (ρ : Env) (st : S) (σ : L2.St) (H : Hp) : Prop where
  sS : n.Z.aS ∈ n.B
  sL : n.Z.aL ∈ n.B
  w0 : ∃ st0, Wld W n.Z st0 n.H
  hB : ∀ a ∈ n.B, (∃ xs, n.H a = some (.lst xs)) ∨ ∃ kvs, n.H a = some (.dK kvs)
  gr : Grow n.Z n.H H
  w : Wld W n.Z st H
  len : ρ.length = σ.length
  new : ∀ p ∈ ow, n.H p.2 = none
  lst : ∀ p ∈ ow, ∃ vs, H p.2 = some (.lst vs)
  nd : ∀ (i j : Nat) (a : Addr), (i, a) ∈ ow → (j, a) ∈ ow → i = j
  own : ∀ (i : Nat) (d : D), ρ[i]? = some (some (d, true)) → ∃ ds p vs, d = .lst ds ∧ (i, p) ∈ ow ∧ σ[i]? = some (some (.ref p)) ∧ H p = some (.lst vs) ∧ Reps W n.Z (hid (owB ow n.B) H) ds vs
  see : ∀ (i : Nat) (d : D), ρ[i]? = some (some (d, false)) → ∃ v, σ[i]? = some (some v) ∧ Rep W n.Z (hid (owB ow n.B) H) d v
  mks : ∀ m ∈ n.M, MarkOk n.Z n.B m ow H
section
variable {W : Wp} {n : Ent} {ow : Ow} {ρ : Env} {st st' : S} {σ : L2.St} {H H' : Hp}
theorem EnvAt.inB (e : EnvAt W n ow ρ st σ H) {a : Addr} (h : a ∈ n.B) : n.H a ≠ none := fun z => by
  rcases e.hB a h with ⟨_, x⟩ | ⟨_, x⟩ <;> (rw [z] at x; cases x)
theorem EnvAt.neS (e : EnvAt W n ow ρ st σ H) {a : Addr} (h : n.H a = none) : a ≠ n.Z.aS ∧ a ≠ n.Z.aL := ⟨fun z => e.inB e.sS (z ▸ h), fun z => e.inB e.sL (z ▸ h)⟩
theorem EnvAt.sSo (e : EnvAt W n ow ρ st σ H) (ow' : Ow) : n.Z.aS ∈ owB ow' n.B := owB_mem.mpr (.inr e.sS)
theorem EnvAt.sLo (e : EnvAt W n ow ρ st σ H) (ow' : Ow) : n.Z.aL ∈ owB ow' n.B := owB_mem.mpr (.inr e.sL)
theorem EnvAt.ent (e : EnvAt W n ow ρ st σ H) {a : Addr} (h : a ∈ owB ow n.B) : (∃ xs, H a = some (.lst xs)) ∨ ∃ kvs, H a = some (.dK kvs) := by
  rcases owB_mem.mp h with ⟨i, h⟩ | h
  · obtain ⟨vs, e1⟩ := e.lst _ h
    exact .inl ⟨vs, e1⟩
  · exact mu_grow (e.hB a h) e.gr e.w
/-- what an expression finds that reads vs -/
theorem EnvAt.at_ (e : EnvAt W n ow ρ st σ H) (vs : List Nat) : At W ⟨n.Z, owB (owOff ow vs) n.B, ρ⟩ st vs σ H := by
  refine ⟨e.sSo _, e.sLo _, e.w, fun a ha => e.ent (off_sub ha), e.len, fun i hi d g => ?_⟩
  obtain ⟨b, hr⟩ : ∃ b, ρ[i]? = some (some (d, b)) := by
    have g : getE ρ i = some d := g
    unfold getE at g
    split at g
    · rename_i d' b' hr
      cases g
      exact ⟨b', hr⟩
    · cases g
  cases b with
  | false =>
    obtain ⟨v, h1, h2⟩ := e.see i d hr
    exact ⟨v, h1, Rep.mono (hid_sub fun a h => off_sub h) _ _ h2⟩
  | true =>
    obtain ⟨ds, p, ws, rfl, h1, h2, h3, h4⟩ := e.own i d hr
    refine ⟨.ref p, h2, p, ws, rfl, hid_of (fun z => ?_) h3, Reps.mono (hid_sub fun a h => off_sub h) _ _ h4⟩
    rcases owB_mem.mp z with ⟨j, z⟩ | z
    · obtain ⟨z1, z2⟩ := off_mem.mp z
      exact z2 (e.nd i j p h1 z1 ▸ hi)
    · exact e.inB z (e.new _ h1)
theorem EnvAt.grow (e : EnvAt W n ow ρ st σ H) (g : Grow n.Z H H') (w : Wld W n.Z st' H') : EnvAt W n ow ρ st' σ H' := by
  have l : Le (hid (owB ow n.B) H) (hid (owB ow n.B) H') := g.le (e.sSo _) (e.sLo _)
  have k : ∀ {p : Nat × Addr} {vs : List V}, p ∈ ow → H p.2 = some (.lst vs) → H' p.2 = some (.lst vs) := fun {p vs} hp h => g.keep _ _ h (e.neS (e.new _ hp)).1 (e.neS (e.new _ hp)).2 fun ps z => by cases z
  refine ⟨e.sS, e.sL, e.w0, e.hB, e.gr.trans g, w, e.len, e.new, fun p hp => ?_, e.nd, fun i d hr => ?_, fun i d hr => ?_, fun m hm => (e.mks m hm).grow g⟩
  · obtain ⟨vs, h⟩ := e.lst p hp
    exact ⟨vs, k hp h⟩
  · obtain ⟨ds, p, ws, rfl, h1, h2, h3, h4⟩ := e.own i d hr
    exact ⟨ds, p, ws, rfl, h1, h2, k h1 h3, Reps.mono l _ _ h4⟩
  · obtain ⟨v, h1, h2⟩ := e.see i d hr
    exact ⟨v, h1, Rep.mono l _ _ h2⟩
theorem disown_get {vs : List Nat} {i : Nat} {d : D} {b : Bool} (h : (disown vs ρ)[i]? = some (some (d, b))) : ∃ b', ρ[i]? = some (some (d, b')) ∧ b = (b' && !vs.contains i) := by
  unfold disown at h
  rw [List.getElem?_mapIdx] at h
  cases e : ρ[i]? with
  | none => rw [e]
                                                                                                    at h; cases h
  | some o =>
    rw [e] at h
    cases o with
    | none => cases h
    | some x =>
      obtain ⟨d', b'⟩ := x
      have h : some (some (d', b' && !vs.contains i)) = some (some (d, b)) := h
      cases h
      exact ⟨b', rfl, rfl⟩
theorem disown_len {vs : List Nat} : (disown vs ρ).length = ρ.length := by simp [disown]
/-- what vs own is theirs no more -/
theorem EnvAt.off (e : EnvAt W n ow ρ st σ H) (vs : List Nat) : EnvAt W n (owOff ow vs) (disown vs ρ) st σ H := by
  refine ⟨e.sS, e.sL, e.w0, e.hB, e.gr, e.w, disown_len.trans e.len, fun p hp => e.new p (off_mem.mp hp).1, fun p hp => e.lst p (off_mem.mp hp).1, fun i j a h1 h2 => e.nd i j a (off_mem.mp h1).1 (off_mem.mp h2).1, fun i d hr => ?_, fun i d hr => ?_, fun m hm => (e.mks m hm).less fun p hp => (off_mem.mp hp).1⟩
  · obtain ⟨b', hr, eb⟩ := disown_get hr
    have hb : b' = true ∧ vs.contains i = false := by
      have eb := eb.symm
      rw [Bool.and_eq_true, Bool.not_eq_true'] at eb
      exact eb
    obtain ⟨rfl, hi⟩ := hb
    obtain ⟨ds, p, ws, rfl, h1, h2, h3, h4⟩ := e.own i d hr
    exact ⟨ds, p, ws, rfl, off_mem.mpr ⟨h1, by simpa using hi⟩, h2, h3, Reps.mono (hid_sub fun a h => off_sub h) _ _ h4⟩
  · obtain ⟨b', hr, eb⟩ := disown_get hr
    cases b' with
    | false =>
      obtain ⟨v, h1, h2⟩ := e.see i d hr
      exact ⟨v, h1, Rep.mono (hid_sub fun a h => off_sub h) _ _ h2⟩
    | true =>
      have hi : i ∈ vs := by
        have eb : (!vs.contains i) = false := by rw [eb, Bool.true_and]
        rw [Bool.not_eq_false'] at eb
        exact List.contains_iff_mem.mp eb
      have hg : getE ρ i = some d := by
        unfold getE
        rw [hr]
      exact (e.at_ vs).see i hi d hg
/-- a slot is stored -/
theorem EnvAt.setV (e : EnvAt W n ow ρ st σ H) {i : Nat} {d : D} {v : V} (r : Rep W n.Z (hid (owB (owOff ow [i]) n.B) H) d v) : EnvAt W n (owOff ow [i]) (ρ.set i (some (d, false))) st (σ.set i (some v)) H := by
  refine ⟨e.sS, e.sL, e.w0, e.hB, e.gr, e.w, by simp [e.len], fun p hp => e.new p (off_mem.mp hp).1, fun p hp => e.lst p (off_mem.mp hp).1, fun a b c h1 h2 => e.nd a b c (off_mem.mp h1).1 (off_mem.mp h2).1, fun j d' hr => ?_, fun j d' hr => ?_, fun m hm => (e.mks m hm).less fun p hp => (off_mem.mp hp).1⟩
  · by_cases hj : j = i
    · subst hj
      rw [List.getElem?_set] at hr
      simp only [if_true] at hr
      split at hr <;> cases hr
    · rw [List.getElem?_set_ne (Ne.symm hj)] at hr ⊢
      obtain ⟨ds, p, ws, rfl, h1, h2, h3, h4⟩ := e.own j d' hr
      exact ⟨ds, p, ws, rfl, off_mem.mpr ⟨h1, by simpa using hj⟩, h2, h3, Reps.mono (hid_sub fun a h => off_sub h) _ _ h4⟩
  · by_cases hj : j = i
    · subst hj
      have hl : j < ρ.length := by
        rw [List.getElem?_set] at hr
        simp only [if_true] at hr
        split at hr
        · assumption
        · cases hr
      rw [List.getElem?_set_self hl] at hr
      cases hr
      exact ⟨v, List.getElem?_set_self (by rw [← e.len]; exact hl), r⟩
    · rw [List.getElem?_set_ne (Ne.symm hj)] at hr ⊢
      obtain ⟨v', h1, h2⟩ := e.see j d' hr
      exact ⟨v', h1, Rep.mono (hid_sub fun a h => off_sub h) _ _ h2⟩
/-- a new list of one's own is stored -/
theorem EnvAt.setO (e : EnvAt W n ow ρ st σ H) (g : Grow n.Z H H') (w : Wld W n.Z st' H') {i : Nat} {p : Addr} {ds : List D} {vs : List V} (hp : H p = none) (hv : H' p = some (.lst vs)) (r : Reps W n.Z (hid (p :: owB (owOff ow [i]) n.B) H') ds vs) :
    EnvAt W n ((i, p) :: owOff ow [i]) (ρ.set i (some (.lst ds, true))) st' (σ.set i (some (.ref p))) H' := by
  have l : Le (hid (owB ow n.B) H) (hid (p :: owB (owOff ow [i]) n.B) H') := fun a o h nt => by
    obtain ⟨m, h⟩ := hid_some h
    refine hid_of (fun z => ?_) (g.keep a o h (fun z => m (z ▸ e.sSo _)) (fun z => m (z ▸ e.sLo _)) nt)
    rcases List.mem_cons.mp z
                                                                                                    with z | z
    · rw [z, hp] at h
      cases h
    · exact m (off_sub z)
  have k : ∀ {p : Nat × Addr} {vs : List V}, p ∈ ow → H p.2 = some (.lst vs) → H' p.2 = some (.lst vs) := fun {p vs} hp h => g.keep _ _ h (e.neS (e.new _ hp)).1 (e.neS (e.new _ hp)).2 fun ps z => by cases z
  have np : ∀ j, (j, p) ∈ ow → False := fun j hj => by
    obtain ⟨ws, z⟩ := e.lst _ hj
    rw [hp] at z
    cases z
  refine ⟨e.sS, e.sL, e.w0, e.hB, e.gr.trans g, w, by simp [e.len], fun q hq => ?_, fun q hq => ?_, fun a b c h1 h2 => ?_, fun j d' hr => ?_, fun j d' hr => ?_, fun m hm => (((e.mks m hm).less fun p hp => (off_mem.mp hp).1).more hp).grow g⟩
  · rcases List.mem_cons.mp hq with z | z
    · rw [z]
      exact e.gr.none hp
    · exact e.new q (off_mem.mp z).1
  · rcases List.mem_cons.mp hq with z | z
    · rw [z]
      exact ⟨vs, hv⟩
    · obtain ⟨ws, h⟩ := e.lst q (off_mem.mp z).1
      exact ⟨ws, k (off_mem.mp z).1 h⟩
  · rcases List.mem_cons.mp h1 with z1 | z1
    · rcases List.mem_cons.mp h2 with z2 | z2
      · cases z1
        cases z2
        rfl
      · cases z1
        exact (np _ (off_mem.mp z2).1).elim
    · rcases List.mem_cons.mp h2 with z2 | z2
      · cases z2
        exact (np _ (off_mem.mp z1).1).elim
      · exact e.nd a b c (off_mem.mp z1).1 (off_mem.mp z2).1
  · by_cases hj : j = i
    · subst hj
      have hl : j < ρ.length := by
        rw [List.getElem?_set] at hr
        simp only [if_true] at hr
        split at hr
        · assumption
        · cases hr
      rw [List.getElem?_set_self hl] at hr
      cases hr
      exact ⟨ds, p, vs, rfl, List.mem_cons_self, List.getElem?_set_self (by rw [← e.len]; exact hl), hv, r⟩
    · rw [List.getElem?_set_ne (Ne.symm hj)] at hr ⊢
      obtain ⟨ds', p', ws, rfl, h1, h2, h3, h4⟩ := e.own j d' hr
      exact ⟨ds', p', ws, rfl, List.mem_cons_of_mem _ (off_mem.mpr ⟨h1, by simpa using hj⟩), h2, k h1 h3, Reps.mono l _ _ h4⟩
  · by_cases hj : j = i
    · subst hj
      rw [List.getElem?_set] at hr
      simp only [if_true] at hr
      split at hr <;> cases hr
    · rw [List.getElem?_set_ne (Ne.symm hj)] at hr ⊢
      obtain ⟨v', h1, h2⟩ := e.see j d' hr
      exact ⟨v', h1, Rep.mono l _ _ h2⟩
/-- a mark is set -/
theorem EnvAt.mark (e : EnvAt W n ow ρ st σ H) : EnvAt W { n with M := (owB ow n.B, H) :: n.M } ow ρ st σ H := by
  refine ⟨e.sS, e.sL, e.w0, e.hB, e.gr, e.w, e.len, e.new, e.lst, e.nd, e.own, e.see, fun m hm => ?_⟩
  rcases List.mem_cons.mp hm with z | z
  · subst z
    exact ⟨e.sSo _, e.sLo _, fun a ha => owB_mem.mpr (.inr ha), fun a o h _ _ => h, fun a ha z => by
      rcases e.ent ha with ⟨_, x⟩ | ⟨_, x⟩ <;> (rw [z] at x; cases x), fun a h => h, fun p hp => .inl (owB_mem.mpr (.inl ⟨p.1, hp⟩))⟩
  · exact e.mks m z
theorem EnvAt.unmark {m : List Addr × Hp} (e : EnvAt W { n with M := m :: n.M } ow ρ st σ H) : EnvAt W n ow ρ st σ H :=
  ⟨e.sS, e.sL, e.w0, e.hB, e.gr, e.w, e.len, e.new, e.lst, e.nd, e.own, e.see, fun m' hm => e.mks m' (List.mem_cons_of_mem _ hm)⟩
theorem bindG_raw : ∀ {g : G} {d : D} {ρ ρ' : Env} {i : Nat}, bindG g d ρ = some ρ' → (i ∉ slotsG g → ρ'[i]? = ρ[i]?) ∧ ∀ x, ρ'[i]? = some (some (x, true)) → ρ[i]? = some (some (x, true)) ∧ i ∉ slotsG g := by
  suffices h : ∀ k, (∀ (g : G) (d : D) (ρ ρ' : Env) (i : Nat), sizeOf g ≤ k → bindG g d ρ = some ρ' → (i ∉ slotsG g → ρ'[i]? = ρ[i]?) ∧ ∀ x, ρ'[i]? = some (some (x, true)) → ρ[i]? = some (some (x, true)) ∧ i ∉ slotsG g) ∧
      ∀ (gs : List G) (ds : List D) (ρ ρ' : Env) (i : Nat), sizeOf gs ≤ k → bindGs gs ds ρ = some ρ' → (i ∉ slotsGs gs → ρ'[i]? = ρ[i]?) ∧ ∀ x, ρ'[i]? = some (some (x, true)) → ρ[i]? = some (some (x, true)) ∧ i ∉ slotsGs gs from
    fun {g d ρ ρ' i} hb => (h (sizeOf g)).1 g d ρ ρ' i (Nat.le_refl _) hb
  intro k
  induction k with
  | zero =>
    refine ⟨fun g d ρ ρ' i hk => ?_, fun gs ds ρ ρ' i hk => ?_⟩
    · cases g <;> simp at hk
    · cases gs <;> simp at hk
  | succ k ih =>
    refine ⟨fun g d ρ ρ' i hk hb => ?_, fun gs ds ρ ρ' i hk hb => ?_⟩
    · cases g with
      | nm j =>
        cases hb
        refine ⟨fun hn => List.getElem?_set_ne fun e => hn (by simp [slotsG, e]), fun x hx => ?_⟩
        by_cases e : j = i
        · subst e
          rw [List.getElem?_set] at hx
          simp only [if_true] at hx
          split at hx <;> cases hx
        · rw [List.getElem?_set_ne e] at hx
          exact ⟨hx, by simp [slotsG, Ne.symm e]⟩
      | tp gs =>
        cases d with
        | tup ds =>
          have hb : bindGs gs ds ρ = some ρ' := hb
          exact ih.2 gs ds ρ ρ' i (by simp at hk; omega) hb
        | _ => cases hb
    · cases gs with
      | nil =>
        cases ds with
        | nil =>
          cases hb
          exact ⟨fun _ => rfl, fun x hx => ⟨hx, by simp [slotsGs]⟩⟩
        | cons _ _ => cases hb
      | cons g gs =>
        cases ds with
        | nil => cases hb
        | cons d ds =>
          obtain ⟨ρ1, h1, h2⟩ := Option.bind_eq_some_iff.mp (show (bindG g d ρ).bind (fun ρ1 => bindGs gs ds ρ1) = some ρ' from hb)
          obtain ⟨a1, a2⟩ := ih.1 g d ρ ρ1 i (by simp at hk; omega) h1
          obtain ⟨b1, b2⟩ := ih.2 gs ds ρ1 ρ' i (by simp at hk; omega) h2
          refine ⟨fun hn => ?_, fun x hx => ?_⟩
          · simp only [slotsGs, List.mem_append, not_or] at hn
            rw [b1 hn.2, a1 hn.1]
          · obtain ⟨c1, c2⟩ := b2 x hx
            obtain ⟨d1, d2⟩ := a2 x c1
            exact ⟨d1, by simp [slotsGs, d2, c2]⟩
/-- a target is stored -/
theorem EnvAt.setG {g : G} {d : D} {ρ' : Env} {σ' : L2.St} (e : EnvAt W n ow ρ st σ H) (hb : bindG g d ρ = some ρ') (b : Bd W n.Z (hid (owB (owOff ow (slotsG g)) n.B) H) (slotsG g) ρ' σ σ') : EnvAt W n (owOff ow (slotsG g)) ρ' st σ' H := by
  refine ⟨e.sS, e.sL, e.w0, e.hB, e.gr, e.w, by rw [bindG_len hb, e.len, b.len], fun p hp => e.new p (off_mem.mp hp).1, fun p hp => e.lst p (off_mem.mp hp).1, fun a b c h1 h2 => e.nd a b c (off_mem.mp h1).1 (off_mem.mp h2).1, fun j d' hr => ?_, fun j d' hr => ?_, fun m hm => (e.mks m hm).less fun p hp => (off_mem.mp hp).1⟩
  · obtain ⟨hr, hj⟩ := (bindG_raw hb).2 d' hr
    obtain ⟨ds, p, ws, rfl, h1, h2, h3, h4⟩ := e.own j d' hr
    exact ⟨ds, p, ws, rfl, off_mem.mpr ⟨h1, hj⟩, by rw [b.out j hj]; exact h2, h3, Reps.mono (hid_sub fun a h => off_sub h) _ _ h4⟩
  · by_cases hj : j ∈ slotsG g
    · have hg : getE ρ' j = some d' := by
        unfold getE
        rw [hr]
      exact b.see j hj d' hg
    · rw [(bindG_raw hb).1 hj] at hr
      obtain ⟨v', h1, h2⟩ := e.see j d' hr
      exact ⟨v', by rw [b.out j hj]; exact h1, Rep.mono (hid_sub fun a h => off_sub h) _ _ h2⟩
/-- one's own list is changed -/
theorem EnvAt.put (e : EnvAt W n ow ρ st σ H) {i : Nat} {p : Addr} {ds ds' : List D} {vs' : List V} (hi : ρ[i]? = some (some (.lst ds, true))) (hp : (i, p) ∈ ow) (hs : σ[i]? = some (some (.ref p))) (r : Reps W n.Z (hid (owB ow n.B) H) ds' vs') :
    EnvAt W n ow (ρ.set i (some (.lst ds', true))) st σ (upd H p (.lst vs')) := by
  have hpB : p ∈ owB ow n.B := owB_mem.mpr (.inl ⟨i, hp⟩)
  have l : Le (hid (owB ow n.B) H) (hid (owB ow n.B) (upd H p (.lst vs'))) := le_put hpB
  have hH : ∃ vs, H p = some (.lst vs) := e.lst _ hp
  have mu : Mu H p := .inl hH
  have hn : n.H p = none := e.new _ hp
  obtain ⟨st0, w0⟩ := e.w0
  have hl : i < ρ.length := (List.getElem?_eq_some_iff.mp hi).1
  refine ⟨e.sS, e.sL, e.w0, e.hB, grow_put e.gr hn, wld_new w0 hn e.w mu, by simp [e.len], e.new, fun q hq => ?_, e.nd, fun j d' hr => ?_, fun j d' hr => ?_, fun m hm => ?_⟩
  · by_cases z : q.2 = p
    · exact ⟨vs', by rw [z, upd_same]⟩
    · rw [upd_ne z]
      exact e.lst q hq
  · by_cases hj : j = i
    · subst hj
      rw [List.getElem?_set_self hl] at hr
      cases hr
      exact ⟨ds', p, vs', rfl, hp, hs, upd_same, Reps.mono l _ _ r⟩
    · rw [List.getElem?_set_ne (Ne.symm hj)] at hr
      obtain ⟨ds2, p2, ws, rfl, h1, h2, h3, h4⟩ := e.own j d' hr
      exact ⟨ds2, p2, ws, rfl, h1, h2, by
        have np : p2 ≠ p := fun z => hj (e.nd j i p (by rw [← z]; exact h1) hp)
        rw [upd_ne np]; exact h3, Reps.mono l _ _ h4⟩
  · by_cases hj : j = i
    · subst hj
      rw [List.getElem?_set_self hl] at hr
      cases hr
    · rw [List.getElem?_set_ne (Ne.symm hj)] at hr
      obtain ⟨v', h1, h2⟩ := e.see j d' hr
      exact ⟨v', h1, Rep.mono l _ _ h2⟩
  · have k := e.mks m hm
    have sm : ∀ a, H a ≠ none → upd H p (.lst vs') a ≠ none := fun a h z => by
      by_cases q : a = p
      · rw [q, upd_same] at z
        cases z
      · rw [upd_ne q] at z
        exact h z
    refine ⟨k.sS, k.sL, k.sub, fun a o h na nt => ?_, fun a ha => sm a (k.fro a ha), fun a ha => sm a (k.there a ha), k.nw⟩
    rw [upd_ne fun z => ?_]
    · exact k.keep a o h na nt
    · rcases k.nw _ hp with y | y
      · exact na (z ▸ y)
      · rw [z, y] at h
        cases h
end
end Mp
end
section
/-! Mp: statements. -/
namespace Mp
open PySem PySem.Spec
                                                                                                    PyProof.Rows L2

/-- behind a statement -/
def FinC (W : Wp) (n : Ent) (E : XK) (D : Ends) (r : R Out) : Prop := match r with
  | .ok (.nx ρ) st => ∀ ow σ H, EnvAt W n ow ρ st σ H → D.nx σ H
  | .ok (.bk ρ) st => ∀ ow σ H, EnvAt W n ow ρ st σ H → D.bk σ H
  | .ok (.ct ρ) st => ∀ ow σ H, EnvAt W n ow ρ st σ H → D.ct σ H
  | .ok (.rt d) st => ∀ v H, Grow n.Z n.H H → Wld W n.Z st H → Rep W n.Z (hid n.B H) d v → D.rt v H
  | .exc x st => ∀ cls dx H, Grow n.Z n.H H → Wld W n.Z st H → ExRep W x cls dx H → E cls dx H
  | .no => False
def tS (W : Wp) (Γ : Gam) (c : C) (E : XK) : TS := fun En σ H => ∃ n ow ρ st, EnvAt W n ow ρ st σ H ∧ FinC W n E En (evC Γ c ρ st)
def tSs (W : Wp) (Γ : Gam) (cs : List C) (E : XK) : TS := fun En σ H => ∃ n ow ρ st, EnvAt W n ow ρ st σ H ∧ FinC W n E En (evCs Γ cs ρ st)
section
variable {W : Wp} {Γ : Gam} {E : XK} {n : Ent} {ow : Ow} {ρ : Env} {st st1 : S} {σ : L2.St} {H H1 : Hp} {t : T} {d : D} {x : V} {En : Ends} {i : Nat}
theorem imm_to {Z : Zp} {B B' : List Addr} (h : ∀ a ∈ B', a ∈ B ∨ ∃ l, H a = some (.lst l)) {d : D} (m : mutD d = false) {v : V} (r : Rep W Z (hid B H) d v) : Rep W Z (hid B' H) d v := Rep.imm (fun a o e n1 n2 n3 => by
  obtain ⟨k, e⟩ := hid_some e
  refine hid_of (fun z => ?_) e
  rcases h a z with z | ⟨l, z⟩
  · exact k z
  · rw [e] at z
    exact n2 l (Option.some.inj z)) d v m r
theorem imms_to {Z : Zp} {B B' : List Addr} (h : ∀ a ∈ B', a ∈ B ∨ ∃ l, H a = some (.lst l)) {ds : List D} (m : mutDs ds = false) {vs : List V} (r : Reps W Z (hid B H) ds vs) : Reps W Z (hid B' H) ds vs := Reps.imm (fun a o e n1 n2 n3 => by
  obtain ⟨k, e⟩ := hid_some e
  refine hid_of (fun z => ?_) e
  rcases h a z with z | ⟨l, z⟩
  · exact k z
  · rw [e] at z
    exact n2 l (Option.some.inj z)) ds vs m r
/-- an expression within a statement -/
theorem EnvAt.ask {f : D → M Out} {R : V → Hp → Prop} (e : EnvAt W n ow ρ st σ H) (hf : FinC W n E En (bnd (ev Γ ρ t) f st))
    (k : ∀ d st1 H1 x, Grow n.Z H H1 → Wld W n.Z st1 H1 → Res W ⟨n.Z, owB (owOff ow (vars t)) n.B, ρ⟩ H H1 (fresh t) d x → FinC W n E En (f d st1) → R x H1) : tE W Γ t E σ H R := by
  refine ⟨⟨n.Z, owB (owOff ow (vars t)) n.B, ρ⟩, st, e.at_ _, ?_⟩
  unfold bnd at hf
  show Fin W ⟨n.Z, owB (owOff ow (vars t)) n.B, ρ⟩ E _ (ev Γ ρ t st) H
  cases e1 : ev Γ ρ t st with
  | ok d s1 =>
    rw [e1] at hf
    exact fun H1 g w v r => k d s1 H1 v g w r hf
  | exc y s1 =>
    rw [e1] at hf
    exact fun c dx H1 g w z => hf c dx H1 (e.gr.trans g) w z
  | no =>
    rw [e1] at hf
    exact hf.elim
/-- a test within a statement -/
theorem EnvAt.askT {f : Bool → M Out} {R : Bool → Hp → Prop} (e : EnvAt W n ow ρ st σ H) (hf : FinC W n E En (bnd (tst Γ ρ t) f st))
    (k : ∀ c st1 H1, Grow n.Z H H1 → Wld W n.Z st1 H1 → FinC W n E En (f c st1) → R c H1) : tT W Γ t E σ H R := by
  refine ⟨⟨n.Z, owB (owOff ow (vars t)) n.B, ρ⟩, st, e.at_ _, ?_⟩
  unfold bnd at hf
  show Fin W ⟨n.Z, owB (owOff ow (vars t)) n.B, ρ⟩ E _ (tst Γ ρ t st) H
  cases e1 : tst Γ ρ t st with
  | ok d s1 =>
    rw [e1] at hf
    exact fun H1 g w => k d s1 H1 g w hf
  | exc y s1 =>
    rw [e1] at hf
    exact fun c dx H1 g w z => hf c dx H1 (e.gr.trans g) w z
  | no =>
    rw [e1] at hf
    exact hf.elim
theorem lst_of {d : D} (h : isLst d = true) : ∃ ds, d = .lst ds := by
  cases d <;> simp only [isLst] at h <;> first | (cases h; done) | exact ⟨_, rfl⟩
/-- an expression's value into a slot -/
theorem EnvAt.store {d : D} (e : EnvAt W n ow ρ st σ H) (g : Grow n.Z H H1) (w : Wld W n.Z st1 H1) (r : Res W ⟨n.Z, owB (owOff ow (vars t)) n.B, ρ⟩ H H1 (fresh t) d x) :
    ∃ ow', EnvAt W n ow' ((after t d ρ).set i (some (d, fresh t && isLst d))) st1 (σ.set i (some x)) H1 ∧ (∀ q ∈ ow, q.1 ∉ vars t → q.1 ≠ i → q ∈ ow') ∧ (∀ q ∈ ow', q ∈ ow ∨ H q.2 = none) ∧
      ((fresh t && isLst d) = true → ∃ ds p vs, d = .lst ds ∧ x = .ref p ∧ (i, p) ∈ ow' ∧ H1 p = some (.lst vs) ∧ Reps W n.Z (hid (owB ow' n.B) H1) ds vs) ∧ ((fresh t && isLst d) = false → Rep W n.Z (hid (owB ow' n.B) H1) d x) := by
  have e1 := e.grow g w
  have keepO : ∀ {ow' : Ow} {q : Nat × Addr}, q ∈ ow' → q.1 ≠ i → q ∈ owOff ow' [i] := fun h1 h2 => off_mem.mpr ⟨h1, by simpa using h2⟩
  have extra : ∀ {p : Addr} {ow' : Ow}, (∀ q ∈ ow', q ∈ ow) → ∀ a ∈ p :: owB ow' n.B, a ∈ p :: owB (owOff ow (vars t)) n.B ∨ ∃ l, H1 a = some (.lst l) := fun {p ow'} hs a ha => by
    rcases List.mem_cons.mp ha with z | z
    · exact .inl (z ▸ List.mem_cons_self)
    · rcases owB_mem.mp z with ⟨j, z⟩ | z
      · exact .inr (e1.lst _ (hs _ z))
      · exact .inl (List.mem_cons_of_mem _ (owB_mem.mpr (.inr z)))
  have extra0 : ∀ {ow' : Ow}, (∀ q ∈ ow', q ∈ ow) → ∀ a ∈ owB ow' n.B, a ∈ owB (owOff ow (vars t)) n.B ∨ ∃ l, H1 a = some (.lst l) := fun {ow'} hs a ha => by
    rcases owB_mem.mp ha with ⟨j, z⟩ | z
    · exact .inr (e1.lst _ (hs _ z))
    · exact .inl (owB_mem.mpr (.inr z))
  have subo : ∀ {ow' : Ow} {vs : List Nat} {q}, q ∈ owOff ow' vs → q ∈ ow' := fun h => (off_mem.mp h).1
  unfold after
  by_cases hd : (mutD d && !(fresh t && elImm d)) = true
  · rw [if_pos hd]
    by_cases fl : (fresh t && isLst d) = true
    · rw [fl]
      obtain ⟨f1, f2⟩ := (Bool.and_eq_true ..).mp fl
      obtain ⟨ds, rfl⟩ := lst_of f2
      obtain ⟨p, vs, rfl, hp, hv, rr⟩ := r.new f1 ds rfl
      have r5 : Reps W n.Z (hid (p :: owB (owOff (owOff ow (vars t)) [i]) n.B) H1) ds vs := Reps.mono (hid_sub fun a ha => by
        rcases List.mem_cons.mp ha with z | z
        · exact z ▸ List.mem_cons_self
        · exact List.mem_cons_of_mem _ (off_sub z)) _ _ rr
      refine ⟨_, (e.off (vars t)).setO g w hp hv r5, fun q h1 h2 h3 => List.mem_cons_of_mem _ (keepO (off_mem.mpr ⟨h1, h2⟩) h3), fun q hq => ?_, fun _ => ⟨ds, p, vs, rfl, rfl, List.mem_cons_self, hv, r5⟩, fun z => by cases z⟩
      rcases List.mem_cons.mp hq with z | z
      · exact .inr (z ▸ hp)
      · exact .inl (subo (subo z))
    · rw [Bool.not_eq_true] at fl
      rw [fl]
      have r5 : Rep W n.Z (hid (owB (owOff (owOff ow (vars t)) [i]) n.B) H1) d x := Rep.mono (hid_sub fun a ha => off_sub ha) _ _ r.rep
      exact ⟨_, ((e.off (vars t)).grow g w).setV r5, fun q h1 h2 h3 => keepO (off_mem.mpr ⟨h1, h2⟩) h3, fun q hq => .inl (subo (subo hq)), fun z => (by cases z), fun _ => r5⟩
  · rw [if_neg hd]
    by_cases fl : (fresh t && isLst d) = true
    · rw [fl]
      obtain ⟨f1, f2⟩ := (Bool.and_eq_true ..).mp fl
      obtain ⟨ds, rfl⟩ := lst_of f2
      obtain ⟨p, vs, rfl, hp, hv, rr⟩ := r.new f1 ds rfl
      have him : mutDs ds = false := by
        rw [f1] at hd
        simpa [mutD, elImm] using hd
      have r5 : Reps W n.Z (hid (p :: owB (owOff ow [i]) n.B) H1) ds vs := imms_to (extra fun q hq => subo hq) him rr
      refine ⟨_, e.setO g w hp hv r5, fun q h1 h2 h3 => List.mem_cons_of_mem _ (keepO h1 h3), fun q hq => ?_, fun _ => ⟨ds, p, vs, rfl, rfl, List.mem_cons_self, hv, r5⟩, fun z => by cases z⟩
      rcases List.mem_cons.mp hq with z | z
      · exact .inr (z ▸ hp)
      · exact .inl (subo z)
    · rw [Bool.not_eq_true] at fl
      rw [fl]
      have him : mutD d = false := by
        cases hm : mutD d with
        | false => rfl
        | true =>
          rw [hm, Bool.true_and, Bool.not_eq_true, Bool.not_eq_false', Bool.and_eq_true] at hd
          obtain ⟨f1, f2⟩ := hd
          rw [f1, Bool.true_and] at fl
          cases d <;> simp_all [elImm, isLst]
      have r5 : Rep W n.Z (hid (owB (owOff ow [i]) n.B) H1) d x := imm_to (extra0 fun q hq => subo hq) him r.rep
      exact ⟨_, e1.setV r5, fun q h1 h2 h3 => keepO h1 h3, fun q hq => .inl (subo hq), fun z => (by cases z), fun _ => r5⟩
end
section
variable {X : Cx} {W : Wp} {Γ : Gam} {E : XK} {e : Expr} {A : T} {pos : Pos}
theorem s_never {s : Stmt} : PS X s (tS W Γ .never E) := ⟨fun _ _ _ _ _ _ ⟨_, _, _, _, _, f⟩ => f.elim⟩
theorem s_pas : PS X (.Pass pos) (tS W Γ .pas E) := ⟨fun pins s σ H En I ⟨n, ow, ρ, st, h, f⟩ => ps_pass.run pins s σ H En I (f ow σ H h)⟩
theorem s_brk : PS X (.Break pos) (tS W Γ .brk E) := ⟨fun pins s σ H En I ⟨n, ow, ρ, st, h, f⟩ => ps_break.run pins s σ H En I (f ow σ H h)⟩
theorem s_cnt : PS X (.Continue pos) (tS W Γ .cnt E) := ⟨fun pins s σ H En I ⟨n, ow, ρ, st, h, f⟩ => ps_continue.run pins s σ H En I (f ow σ H h)⟩
theorem s_exp (he : PE X e (tE W Γ A E)) (hs : swapsWith e none pos.line X.env = pure false) : PS X (.Expr e pos) (tS W Γ (.exp A) E) :=
  ⟨fun pins s σ H En I ⟨n, ow, ρ, st, h, f⟩ => (ps_expr he hs).run pins s σ H En I (h.ask f fun d st1 H1 x g w r f1 => f1 ow σ H1 (h.grow g w))⟩
theorem s_ret (he : PE X e (tE W Γ A E)) : PS X (.Return (some e) pos) (tS W Γ (.ret A) E) :=
  ⟨fun pins s σ H En I ⟨n, ow, ρ, st, h, f⟩ => (ps_ret he).run pins s σ H En I (h.ask f fun d st1 H1 x g w r f1 => f1 x H1 (h.gr.trans g) w (Rep.mono (hid_sub fun a ha => owB_mem.mpr (.inr ha)) _ _ r.rep))⟩
theorem s_if {c : Expr} {a b : List Stmt} {ca cb : List C} (hc : PT X c (tT W Γ A E)) (ha : PSs X a (tSs W Γ ca E)) (hb : PSs X b (tSs W Γ cb E)) : PS X (.If c a b pos) (tS W Γ (.iff A ca cb) E) :=
  ⟨fun pins s σ H En I ⟨n, ow, ρ, st, h, f⟩ => (ps_if hc ha hb).run pins s σ H En I (h.askT f fun k st1 H1 g w f1 => by
    cases k with
    | true => exact ⟨n, ow, ρ, st1, h.grow g w, f1⟩
    | false => exact ⟨n, ow, ρ, st1, h.grow g w, f1⟩)⟩
theorem ss_nil : PSs X [] (tSs W Γ [] E) := ⟨fun pins s σ H En I ⟨n, ow, ρ, st, h, f⟩ => pss_nil.run pins s σ H En I (f ow σ H h)⟩
theorem ss_cons {s : Stmt} {ss : List Stmt} {c : C} {cs : List C} (h1 : PS X s (tS W Γ c E)) (h2 : PSs X ss (tSs W Γ cs E)) : PSs X (s :: ss) (tSs W Γ (c :: cs) E) :=
  ⟨fun pins s σ H En I ⟨n, ow, ρ, st, h, f⟩ => (pss_cons h1 h2).run pins s σ H En I ⟨n, ow, ρ, st, h, by
    have f : FinC W n E En (bnd (evC Γ c ρ) (fun o => match o with | .nx ρ' => evCs Γ cs ρ' | o => ret o) st) := f
    unfold bnd at f
    cases e1 : evC Γ c ρ st with
    | no => rw [e1] at f; exact f.elim
    | exc y s1 => rw [e1] at f; exact f
    | ok o s1 =>
      rw [e1] at f
      cases o with
      | nx ρ' => exact fun ow' σ' H' h' => ⟨n, ow', ρ', s1, h', f⟩
      | rt d => exact f
      | bk ρ' => exact f
      | ct ρ' => exact f⟩⟩
/-- name = value -/
theorem s_set {i : Nat} {x : Str} {pos' : Pos} (hN : X.N.Nodup) (hi : X.N[i]? = some x) (hx : Loc X.env.scope x) (he : PE X e (tE W Γ A E)) (hs : swapsWith e (some (.Name x pos')) pos.line X.env = pure false) (hf : X.fn x = true ∨ X.env.scope.names.lookup x = some .local) :
    PS X (.Assign [.Name x pos'] e pos) (tS W Γ (.asg (.nm i) A) E) :=
  ⟨fun pins s σ H En I ⟨n, ow, ρ, st, h, f⟩ => (ps_set hN hi hx he hs hf).run pins s σ H En I (h.ask f fun d st1 H1 v g w r f1 => by
    obtain ⟨ow', h', _⟩ := h.store (i := i) g w r
    exact f1 ow' _ H1 h')⟩
end
end Mp
end
section
/-! Mp: targets, loops. -/
namespace Mp
open PySem PySem.Spec
                                                                                                    PyProof.Rows L2

section
variable {W : Wp} {Γ : Gam} {E : XK} {n : Ent} {ow : Ow} {ρ : Env} {st st1 : S} {σ : L2.St} {H H1 : Hp} {t : T} {d : D} {x : V} {En : Ends}
/-- an expression's value that is no list -/
theorem EnvAt.took (e : EnvAt W n ow ρ st σ H) (g : Grow n.Z H H1) (w : Wld W n.Z st1 H1) (r : Res W ⟨n.Z, owB (owOff ow (vars t)) n.B, ρ⟩ H H1 (fresh t) d x) (hl : isLst d = false) :
    ∃ ow', EnvAt W n ow' (after t d ρ) st1 σ H1 ∧ (∀ q ∈ ow', q ∈ ow) ∧ ∀ vs, Rep W n.Z (hid (owB (owOff ow' vs) n.B) H1) d x := by
  have e1 := e.grow g w
  unfold after
  by_cases hd : (mutD d && !(fresh t && elImm d)) = true
  · rw [if_pos hd]
    exact ⟨_, (e.off (vars t)).grow g w, fun q hq => (off_mem.mp hq).1, fun vs => Rep.mono (hid_sub fun a ha => off_sub ha) _ _ r.rep⟩
  · rw [if_neg hd]
    have him : mutD d = false := by
      cases hm : mutD d with
      | false => rfl
      | true =>
        rw [hm, Bool.true_and, Bool.not_eq_true, Bool.not_eq_false', Bool.and_eq_true] at hd
        obtain ⟨f1, f2⟩ := hd
        cases d <;> simp_all [elImm, isLst]
    refine ⟨_, e1, fun q hq => hq, fun vs => imm_to (fun a ha => ?_) him r.rep⟩
    rcases owB_mem.mp (off_sub ha) with ⟨j, z⟩ | z
    · exact .inr (e1.lst _ z)
    · exact .inl (owB_mem.mpr (.inr z))
end
section
variable {X : Cx} {W : Wp} {Γ : Gam} {E : XK} {e tg iter : Expr} {A : T} {pos : Pos} {g : G} {gs : List G}
theorem bind_lst {ds : List D} {ρ ρ' : Env} (h : bindG (.tp gs) (.lst ds) ρ = some ρ') : False := by cases h
/-- a, b = value -/
theorem s_tup (he : PE X e (tE W Γ A E)) (hg : PG X tg (tG W (.tp gs))) (hs : swapsWithSole [tg] e pos.line X.env = pure false) (hw : swappedStores [tg] e X.env = pure none) (h1 : (assignEach [tg] X.env).map (·.2) = [assign tg X.env]) :
    PS X (.Assign [tg] e pos) (tS W Γ (.asg (.tp gs) A) E) :=
  ⟨fun pins s σ H En I ⟨n, ow, ρ, st, h, f⟩ => (ps_asg he hg hs hw h1).run pins s σ H En I (h.ask (f := fun d => bnd (ofO (bindG (.tp gs) d (after A d ρ))) fun ρ' => ret (.nx ρ')) f fun d st1 H1 v g w r f1 => by
    cases hb : bindG (.tp gs) d (after A d ρ) with
    | none =>
      rw [hb] at f1
      exact f1.elim
    | some ρ' =>
      rw [hb] at f1
      have hl : isLst d = false := by
        cases d <;> first | rfl | exact (bind_lst hb).elim
      obtain ⟨ow', e1, _, rr⟩ := h.took g w r hl
      exact ⟨n.Z, _, d, after A d ρ, ρ', fun a vs z => (hid_some z).2, rr (slotsG (.tp gs)), hb, e1.len, fun σ' b => f1 _ σ' H1 (e1.setG hb b)⟩)⟩
/-- what is left of the loop -/
structure ForAt (W : Wp) (n : Ent) (E : XK) (En : Ends) (F : D → Env → M Out) (xs : List D) (B1 : List Addr) (H1 : Hp) (i : Nat) (σ : L2.St) (H : Hp) : Prop where
  go : ∃ ow ρ st, EnvAt W { n with M := (B1, H1) :: n.M } ow ρ st σ H ∧ FinC W n E En (loopC F (xs.drop i) ρ st)
theorem s_for {k : IK} {its : List T} {body : List Stmt} {cb : List C} (hp : PassesOwn (model X.prog X.w) X.A X.env X.xe) (hc : X.calm = true) (hi : PI X tg iter (iX W Γ k its E)) (hg : PG X tg (tG W g)) (hb : PSs X body (tSs W Γ cb E)) (hs : ∀ x, foldedSetIterable iter X.env x = pure x) :
    PS X (.For tg iter body [] pos) (tS W Γ (.for_ g k its cb) E) := by
  refine ⟨fun pins s σ H En I ⟨n, ow, ρ, st, h, f⟩ => (ps_for hp hc hi hg hb hs).run pins s σ H En I ?_⟩
  have f : FinC W n E En (bnd (evs Γ ρ its) (fun ds => bnd (ofO (itD k ds)) fun xs => loopC (fun d ρ => bnd (ofO (bindG g d ρ)) fun ρ' => evCs Γ cb ρ') xs (afters its ds ρ)) st) := f
  refine ⟨⟨n.Z, owB (owOff ow (varss its)) n.B, ρ⟩, st, h.at_ _, ?_⟩
  show Fin W ⟨n.Z, owB (owOff ow (varss its)) n.B, ρ⟩ E _ (itM Γ ρ k its st) H
  have hm : FinC W n E En (bnd (itM Γ ρ k its) (fun p => loopC (fun d ρ => bnd (ofO (bindG g d ρ)) fun ρ' => evCs Γ cb ρ') p.2 (afters its p.1 ρ)) st) := by
    have e : (bnd (itM Γ ρ k its) (fun p => loopC (fun d ρ => bnd (ofO (bindG g d ρ)) fun ρ' => evCs Γ cb ρ') p.2 (afters its p.1 ρ))) = bnd (evs Γ ρ its) (fun ds => bnd (ofO (itD k ds)) fun xs => loopC (fun d ρ => bnd (ofO (bindG g d ρ)) fun ρ' => evCs Γ cb ρ') xs (afters its ds ρ)) := by
      unfold itM
      simp only [bnd_assoc, bnd_ret]
    rw [e]
    exact f
  clear f
  unfold bnd at hm
  cases e1 : itM Γ ρ k its st with
  | no => rw [e1] at hm; exact hm.elim
  | exc y s1 => rw [e1] at hm; exact fun c dx H1 g w z => hm c dx H1 (h.gr.trans g) w z
  | ok p st1 =>
    rw [e1] at hm
    obtain ⟨ds, xs⟩ := p
    dsimp only at hm
    intro H1 g1 w1 J wa
    dsimp only at wa
    -- what is owned through the loop
    obtain ⟨ow1, ea, hw⟩ : ∃ ow1, EnvAt W n ow1 (afters its ds ρ) st1 σ H1 ∧ Wid ⟨n.Z, owB (owOff ow (varss its)) n.B, ρ⟩ H1 ds (owB ow1 n.B) := by
      unfold afters
      by_cases hm : mutDs ds = true
      · rw [if_pos hm]
        exact ⟨_, (h.off (varss its)).grow g1 w1, fun a ha => ha, fun a ha => .inl ha⟩
      · rw [if_neg hm]
        refine ⟨_, h.grow g1 w1, fun a ha => off_sub ha, fun a ha => ?_⟩
        rcases owB_mem.mp ha with ⟨j, z⟩ | z
        · exact .inr ⟨by simpa using hm, (h.grow g1 w1).lst _ z⟩
        · exact .inl (owB_mem.mpr (.inr z))
    have wd := wa _ hw
    refine for_it wd (fun i σ' H' => ForAt W n E En (fun d ρ => bnd (ofO (bindG g d ρ)) fun ρ' => evCs Γ cb ρ') xs (owB ow1 n.B) H1 i σ' H') ⟨ow1, _, st1, ea.mark, hm⟩ (fun i σ' H' hi p => ?_) (fun i x σ' H2 H3 hi p y => ?_) fun σ' H' p => ?_
    · obtain ⟨ow', ρ', st', e', _⟩ := p.go
      have mk := e'.mks _ List.mem_cons_self
      exact ⟨fun a o z nt => by
        obtain ⟨n1, z⟩ := hid_some z
        exact hid_of n1 (mk.keep a o z n1 nt), fun a ha => mk.fro a ha⟩
    · obtain ⟨ow', ρ', st', e', f'⟩ := p.go
      have mk := e'.mks _ List.mem_cons_self
      obtain ⟨g3, w3⟩ := wld_wy y e'.w
      obtain ⟨d, ed, rd⟩ := y.2
      have hx : xs.drop i = d :: xs.drop (i + 1) := by
        obtain ⟨hi', e⟩ := List.getElem?_eq_some_iff.mp ed
        rw [← e]
        exact List.drop_eq_getElem_cons hi'
      rw [hx, loopC] at f'
      have e3 := e'.grow g3 w3
      have rD : Rep W n.Z (hid (owB ow1 n.B ++ owB ow' n.B) H3) d x := rd _ ⟨fun a ha => List.mem_append_left _ ha, fun a ha => (List.mem_append.mp ha).elim .inl fun z => by
        rcases owB_mem.mp z with ⟨j, z⟩ | z
        · exact mk.nw _ z
        · exact .inl (owB_mem.mpr (.inr z)), fun a ha => (List.mem_append.mp ha).elim (fun z => mk.fro a z) fun z q => by
          rcases e'.ent z with ⟨_, y⟩ | ⟨_, y⟩ <;> (rw [q] at y; cases y)⟩
      have f2 : FinC W n E En (bnd (ofO (bindG g d ρ')) (fun ρ2 => bnd (evCs Γ cb ρ2) fun o => match o with | .nx ρ3 => loopC (fun d ρ => bnd (ofO (bindG g d ρ)) fun ρ' => evCs Γ cb ρ') (xs.drop (i + 1)) ρ3 | .ct ρ3 => loopC (fun d ρ => bnd (ofO (bindG g d ρ)) fun ρ' => evCs Γ cb ρ') (xs.drop (i + 1)) ρ3 | .bk ρ3 => ret (.nx ρ3) | .rt v => ret (.rt v)) st') := by
        rw [← bnd_assoc]
        exact f'
      clear f'
      cases hb' : bindG g d ρ' with
      | none => rw [hb'] at f2; exact f2.elim
      | some ρ2 =>
        rw [hb'] at f2
        have f2 : FinC W n E En ((bnd (evCs Γ cb ρ2) fun o => match o with | .nx ρ3 => loopC (fun d ρ => bnd (ofO (bindG g d ρ)) fun ρ' => evCs Γ cb ρ') (xs.drop (i + 1)) ρ3 | .ct ρ3 => loopC (fun d ρ => bnd (ofO (bindG g d ρ)) fun ρ' => evCs Γ cb ρ') (xs.drop (i + 1)) ρ3 | .bk ρ3 => ret (.nx ρ3) | .rt v => ret (.rt v)) st') := f2
        refine ⟨n.Z, hid (owB (owOff ow' (slotsG g)) n.B) H3, d, ρ', ρ2, fun a vs z => (hid_some z).2, Rep.mono (hid_sub fun a ha => List.mem_append_right _ (off_sub ha)) _ _ rD, hb', e3.len, fun σ2 b => ?_⟩
        refine ⟨{ n with M := (owB ow1 n.B, H1) :: n.M }, owOff ow' (slotsG g), ρ2, st', e3.setG hb' b, ?_⟩
        unfold bnd at f2
        cases e4 : evCs Γ cb ρ2 st' with
        | no => rw [e4] at f2; exact f2.elim
        | exc y s1 => rw [e4] at f2; exact f2
        | ok o s4 =>
          rw [e4] at f2
          cases o with
          | nx ρ3 => exact fun ow4 σ4 H4 e4 => ⟨ow4, ρ3, s4, e4, f2⟩
          | ct ρ3 => exact fun ow4 σ4 H4 e4 => ⟨ow4, ρ3, s4, e4, f2⟩
          | bk ρ3 => exact fun ow4 σ4 H4 e4 => f2 ow4 σ4 H4 e4.unmark
          | rt v => exact f2
    · obtain ⟨ow', ρ', st', e', f'⟩ := p.go
      rw [List.drop_length] at f'
      exact f' ow' σ' H' e'.unmark
end
end Mp
end
section
/-! Mp: own lists grow; comprehensions stored at once. -/
namespace Mp
open PySem PySem.Spec
                                                                                                    PyProof.Rows L2

theorem ownL_some {ρ : Env} {i : Nat} {ds : List D} (h : ownL ρ i = some ds) : ρ[i]? = some (some (.lst ds, true)) := by
  unfold ownL at h
  split at h
  · rename_i e
    cases h
    exact e
  · cases h
theorem disown_out {ρ : Env} {i : Nat} {vs : List Nat} {d : D} {b : Bool} (h : ρ[i]? = some (some (d, b))) (hi : i ∉ vs) : (disown vs ρ)[i]? = some (some (d, b)) := by
  unfold disown
  rw [List.getElem?_mapIdx, h]
  have : vs.contains i = false := by simpa using hi
  show some (some (d, b && !vs.contains i)) = _
  rw [this, Bool.not_false, Bool.and_true]
section
variable {W : Wp} {n : Ent} {ow : Ow} {ρ : Env} {st st1 : S} {σ : L2.St} {H H1 : Hp} {t : T} {d : D} {x : V} {i : Nat} {ds : List D}
/-- an element for one's own list -/
theorem EnvAt.elem (e : EnvAt W n ow ρ st σ H) (hi : ρ[i]? = some (some (.lst ds, true))) (g : Grow n.Z H H1) (w : Wld W n.Z st1 H1) {fr : Bool} (r : Res W ⟨n.Z, owB (owOff ow (vars t)) n.B, ρ⟩ H H1 fr d x) (hv : mutD d = true → i ∉ vars t) :
    ∃ ow' p vs, EnvAt W n ow' (if mutD d then disown (vars t) ρ else ρ) st1 σ H1 ∧ (if mutD d then disown (vars t) ρ else ρ)[i]? = some (some (.lst ds, true)) ∧ (i, p) ∈ ow' ∧ σ[i]? = some (some (.ref p)) ∧ H1 p = some (.lst vs) ∧ Reps W n.Z (hid (owB ow' n.B) H1) ds vs ∧ Rep W n.Z (hid (owB ow' n.B) H1) d x := by
  cases hm : mutD d with
  | true =>
    rw [if_pos rfl]
    have e2 := (e.off (vars t)).grow g w
    have hi2 := disown_out hi (hv hm)
    obtain ⟨ds2, p, vs, eq, h1, h2, h3, h4⟩ := e2.own i _ hi2
    cases eq
    exact ⟨_, p, vs, e2, hi2, h1, h2, h3, h4, r.rep⟩
  | false =>
    rw [if_neg (by decide)]
    have e2 := e.grow g w
    obtain ⟨ds2, p, vs, eq, h1, h2, h3, h4⟩ := e2.own i _ hi
    cases eq
    refine ⟨_, p, vs, e2, hi, h1, h2, h3, h4, imm_to (fun a ha => ?_) hm r.rep⟩
    rcases owB_mem.mp ha with ⟨j, z⟩ | z
    · exact .inr (e2.lst _ z)
    · exact .inl (owB_mem.mpr (.inr z))
end
section
variable {X : Cx} {W : Wp} {Γ : Gam} {E : XK} {e : Expr} {A : T} {p pos apos cpos : Pos} {i : Nat} {x m : Str}
theorem set_same {σ : L2.St} {v : Option V} (h : σ[i]? = some v) : σ.set i v = σ := by
  apply List.ext_getElem?
  intro j
  by_cases hj : i = j
  · subst hj
    rw [List.getElem?_set_self (List.getElem?_eq_some_iff.mp h).1, h]
  · rw [List.getElem?_set_ne hj]
theorem s_app (hm : m = "append") (hN : X.N[i]? = some x) (hv : Vis X.env.scope x) (hd : (x == ("__debug__" : Str)) = false) (hcd : (x == ("__classdict__" : Str)) = false) (he : PE X e (tE W Γ A E))
    (hsw : swapsWith (.Call (.Attribute (.Name x p) m apos) [e] [] cpos) none pos.line X.env = pure false) (hbase : attributeBase (.Name x p) m X.env (eval (.Name x p) X.env) = eval (.Name x p) X.env) (hline : (apos.endLine == cpos.line) = true) (hs : noStar [e] = true) :
    PS X (.Expr (.Call (.Attribute (.Name x p) m apos) [e] [] cpos) pos) (tS W Γ (.app i A) E) := by
  subst hm
  have s1 := (star_one (env := X.env) hs).1
  refine ⟨fun pins s σ H En I ⟨n, ow, ρ, st, h, f⟩ => (ps_expr (pe_bm PySem.F.plainAttrs_list PySem.F.slot_list_append PySem.F.type_list_append mt_append (pe_var hN hv hd hcd) (pa_cons he pa_nil s1) hbase (by rw [s1]; rfl) hline s1 rfl) hsw).run pins s σ H En I ?_⟩
  have f : FinC W n E En (bnd (ofO (ownL ρ i)) (fun ds => bnd (ev Γ ρ A) fun d => if ds.length < sizeLine ∧ (mutD d = true → i ∉ vars A) then ret (.nx ((if mutD d then disown (vars A) ρ else ρ).set i (some (.lst (ds ++ [d]), true)))) else no) st) := f
  cases ho : ownL ρ i with
  | none =>
    rw [ho] at f
    exact f.elim
  | some ds =>
    rw [ho] at f
    have f : FinC W n E En (bnd (ev Γ ρ A) (fun d => if ds.length < sizeLine ∧ (mutD d = true → i ∉ vars A) then ret (.nx ((if mutD d then disown (vars A) ρ else ρ).set i (some (.lst (ds ++ [d]), true)))) else no) st) := f
    have hi := ownL_some ho
    obtain ⟨ds0, p0, vs0, eq, h1, h2, h3, h4⟩ := h.own i _ hi
    cases eq
    refine ⟨.ref p0, h2, .inl ⟨rfl, _, .inl (.inl h3)⟩, h.ask f fun d st1 H1 v g w r f1 => ?_⟩
    by_cases hc : ds.length < sizeLine ∧ (mutD d = true → i ∉ vars A)
    · rw [if_pos hc] at f1
      obtain ⟨ow', p1, vs, e2, hi2, q1, q2, q3, q4, q5⟩ := h.elem hi g w r hc.2
      rw [h2] at q2
      cases q2
      refine ⟨p0, vs, v, rfl, rfl, q3, by rw [← q4.len]; exact hc.1, ?_⟩
      exact f1 ow' σ _ (e2.put hi2 q1 h2 (q4.app (.cons q5 rfl)))
    · rw [if_neg hc] at f1
      exact f1.elim
/-- a comprehension stored at once -/
theorem s_setLc {y : Str} {py : Pos} {elt tg iter : Expr} {ifs : List Expr} {scope : Scope} {own : List (Str × Nat)} {spos : Pos} {g : G} {k : IK} {its : List T} {ci : Option T} {ce : T} (hc : X.calm = true) (hN : X.N.Nodup) (hy : X.N[i]? = some y) (hyl : X.env.scope.names.lookup y = some .local)
    (hsw : swapsWith (.ListComp elt [⟨tg, iter, ifs, 0⟩] scope pos) (some (.Name y py)) spos.line X.env = pure true) (hi : PI X tg iter (iX W Γ k its E)) (ok : BlkOk X.N X.env.scope scope own) (ho : own.map (·.2) = slotsG g)
    (hg : ∀ (s : Shared) (H : Hp) (C : Addr) (cl : List (Str × Addr)) (fp : List Addr), PG (X.blk s H scope (compEnvC scope cl C X.env) fp) tg (tG W g))
    (ht : ∀ (s : Shared) (H : Hp) (C : Addr) (cl : List (Str × Addr)) (fp : List Addr), PTs (X.blk s H scope (compEnvC scope cl C X.env) fp) ifs (tTo W Γ ci E0))
    (he : ∀ (s : Shared) (H : Hp) (C : Addr) (cl : List (Str × Addr)) (fp : List Addr), PE (X.blk s H scope (compEnvC scope cl C X.env) fp) elt (tE W Γ ce E0)) (hs : ∀ x, foldedSetIterable iter X.env x = pure x) :
    PS X (.Assign [.Name y py] (.ListComp elt [⟨tg, iter, ifs, 0⟩] scope pos) spos) (tS W Γ (.asg (.nm i) (.lc g k its ci ce)) E) :=
  ⟨fun pins s σ H En I ⟨n, ow, ρ, st, h, f⟩ => (ps_setLc hc hN hy hyl hsw hi ok hg ht he hs).run pins s σ H En I (by
    obtain ⟨q, st', a, fin⟩ : tE W Γ (.lc g k its ci ce) E σ H (fun v H1 => En.nx (σ.set i (some v)) H1) := h.ask f fun d st1 H1 v g w r f1 => by
      obtain ⟨ow', h', _⟩ := h.store (i := i) g w r
      exact f1 ow' _ H1 h'
    exact lc_turns ho a fin)⟩
end
end Mp
end
section
/-! Mp: a, b = x, y. -/
namespace Mp
open PySem PySem.Spec
                                                                                                    PyProof.Rows L2

/-- a value kept for a slot: k holds its list meanwhile -/
def Held (W : Wp) (n : Ent) (ow : Ow) (k : Nat) (fl : Bool) (d : D) (x : V) (H : Hp) : Prop :=
  (fl = true → ∃ ds p vs, d = .lst ds ∧ x = .ref p ∧ (k, p) ∈ ow ∧ H p = some (.lst vs) ∧ Reps W n.Z (hid (owB ow n.B) H) ds vs) ∧ (fl = false → Rep W n.Z (hid (owB ow n.B) H) d x)
section
variable {W : Wp} {n : Ent} {ow ow' : Ow} {ρ ρ' : Env} {st st' : S} {σ σ' : L2.St} {H H' : Hp} {d : D} {x : V} {i k : Nat} {fl : Bool}
theorem Held.on (h : Held W n ow k fl d x H) (e : EnvAt W n ow ρ st σ H) (g : Grow n.Z H H') (keep : ∀ q ∈ ow, q.1 = k → q ∈ ow') (new : ∀ q ∈ ow', q ∈ ow ∨ H q.2 = none) : Held W n ow' k fl d x H' := by
  have l : Le (hid (owB ow n.B) H) (hid (owB ow' n.B) H') := fun a o z nt => by
    obtain ⟨m, z⟩ := hid_some z
    refine hid_of (fun y => ?_) (g.keep a o z (fun y => m (y ▸ e.sSo _)) (fun y => m (y ▸ e.sLo _)) nt)
    rcases owB_mem.mp y with ⟨j, y⟩ | y
    · rcases new _ y with y | y
      · exact m (owB_mem.mpr (.inl ⟨j, y⟩))
      · have y : H a = none := y
        rw [z] at y
        cases y
    · exact m (owB_mem.mpr (.inr y))
  refine ⟨fun hf => ?_, fun hf => Rep.mono l _ _ (h.2 hf)⟩
  obtain ⟨ds, p, vs, rfl, rfl, h1, h2, h3⟩ := h.1 hf
  exact ⟨ds, p, vs, rfl, rfl, keep _ h1 rfl, g.keep _ _ h2 (e.neS (e.new _ h1)).1 (e.neS (e.new _ h1)).2 (fun ps z => by cases z), Reps.mono l _ _ h3⟩
/-- the kept value is stored -/
theorem EnvAt.adopt (e : EnvAt W n ow ρ st σ H) (h : Held W n ow k fl d x H) (hk : ρ.length ≤ k) : ∃ ow', EnvAt W n ow' (ρ.set i (some (d, fl))) st (σ.set i (some x)) H := by
  cases fl with
  | false => exact ⟨_, e.setV (Rep.mono (hid_sub fun a ha => off_sub ha) _ _ (h.2 rfl))⟩
  | true =>
    obtain ⟨ds, p, vs, rfl, rfl, h1, h2, h3⟩ := h.1 rfl
    have sub : ∀ {a}, a ∈ owB ((i, p) :: owOff ow [i, k]) n.B → a ∈ owB ow n.B := fun {a} ha => by
      rcases List.mem_cons.mp (show a ∈ p :: owB (owOff ow [i, k]) n.B from ha) with z | z
      · exact z ▸ owB_mem.mpr (.inl ⟨k, h1⟩)
      · exact off_sub z
    have l : Le (hid (owB ow n.B) H) (hid (owB ((i, p) :: owOff ow [i, k]) n.B) H) := hid_sub fun a ha => sub ha
    refine ⟨(i, p) :: owOff ow [i, k], e.sS, e.sL, e.w0, e.hB, e.gr, e.w, by simp [e.len], fun q hq => ?_, fun q hq => ?_, fun a b c q1 q2 => ?_, fun j d' hr => ?_, fun j d' hr => ?_, fun m hm => ?_⟩
    · rcases List.mem_cons.mp hq with z | z
      · rw [z]
        exact e.new (k, p) h1
      · exact e.new q (off_mem.mp z).1
    · rcases List.mem_cons.mp hq with z | z
      · exact z ▸ ⟨vs, h2⟩
      · exact e.lst q (off_mem.mp z).1
    · have no : ∀ {j : Nat}, (j, p) ∈ owOff ow [i, k] → False := fun {j} z => by
        obtain ⟨z1, z2⟩ := off_mem.mp z
        exact z2 (by simp [e.nd j k p z1 h1])
      rcases List.mem_cons.mp q1 with z1 | z1
      · rcases List.mem_cons.mp q2 with z2 | z2
        · cases z1
          cases z2
          rfl
        · cases z1
          exact (no z2).elim
      · rcases List.mem_cons.mp q2 with z2 | z2
        · cases z2
          exact (no z1).elim
        · exact e.nd a b c (off_mem.mp z1).1 (off_mem.mp z2).1
    · by_cases hj : j = i
      · subst hj
        have hl : j < ρ.length := by
          rw [List.getElem?_set] at hr
          simp only [if_true] at hr
          split at hr
          · assumption
          · cases hr
        rw [List.getElem?_set_self hl] at hr
        cases hr
        exact ⟨ds, p, vs, rfl, List.mem_cons_self, List.getElem?_set_self (by rw [← e.len]; exact hl), h2, Reps.mono l _ _ h3⟩
      · rw [List.getElem?_set_ne (Ne.symm hj)] at hr ⊢
        have hjl : j < ρ.length := (List.getElem?_eq_some_iff.mp hr).1
        obtain ⟨ds', p', ws, rfl, q1, q2, q3, q4⟩ := e.own j d' hr
        exact ⟨ds', p', ws, rfl, List.mem_cons_of_mem _ (off_mem.mpr ⟨q1, by simp only [List.mem_cons, List.not_mem_nil, or_false, not_or]; exact ⟨hj, by omega⟩⟩), q2, q3, Reps.mono l _ _ q4⟩
    · by_cases hj : j = i
      · subst hj
        rw [List.getElem?_set] at hr
        simp only [if_true] at hr
        split at hr <;> cases hr
      · rw [List.getElem?_set_ne (Ne.symm hj)] at hr ⊢
        obtain ⟨v', q1, q2⟩ := e.see j d' hr
        exact ⟨v', q1, Rep.mono l _ _ q2⟩
    · have k' := e.mks m hm
      exact ⟨k'.sS, k'.sL, k'.sub, k'.keep, k'.fro, k'.there, fun q hq => by
        rcases List.mem_cons.mp hq with z | z
        · rw [z]
          exact k'.nw (k, p) h1
        · exact k'.nw q (off_mem.mp z).1⟩
end
theorem above : ∀ l : List Nat, ∃ m, ∀ x ∈ l, x < m
  | [] => ⟨0, fun x h => by cases h⟩
  | a :: l => by
    obtain ⟨m, h⟩ := above l
    refine ⟨max (a + 1) m, fun x hx => ?_⟩
    rcases List.mem_cons.mp hx with z | z
    · omega
    · have := h x z
      omega
section
variable {X : Cx} {W : Wp} {Γ : Gam} {E : XK} {a b : Expr} {A B : T} {pos : Pos} {i j : Nat} {x y : Str}
theorem after_len {t : T} {d : D} {ρ : Env} : (after t d ρ).length = ρ.length := by
  unfold after
  split
  · exact disown_len
  · rfl
theorem set_far {α : Type} {l : List α} {k : Nat} {v : α} (h : l.length ≤ k) : l.set k v = l := List.set_eq_of_length_le h
theorem s_par {px py pt : Pos} {kt k2 : Nat} {pt2 : Pos} (hc : X.calm = true) (hN : X.N.Nodup) (hi : X.N[i]? = some x) (hj : X.N[j]? = some y) (hij : i ≠ j) (hx : X.env.scope.names.lookup x = some .local) (hy : X.env.scope.names.lookup y = some .local)
    (ha : PE X a (tE W Γ A E)) (hb : PE X b (tE W Γ B E)) (s1 : starEach [a, b] X.env = (false, eval a X.env) :: starEach [b] X.env) (s2 : starEach [b] X.env = (false, eval b X.env) :: starEach [] X.env)
    (hw : swappedStores [.Tuple [.Name x px, .Name y py] kt pt] (.Tuple [a, b] k2 pt2) X.env = pure (some [x, y])) (hs : swapsWithSole [.Tuple [.Name x px, .Name y py] kt pt] (.Tuple [a, b] k2 pt2) pos.line X.env = pure false) :
    PS X (.Assign [.Tuple [.Name x px, .Name y py] kt pt] (.Tuple [a, b] k2 pt2) pos) (tS W Γ (.par i j A B) E) := by
  refine ⟨fun pins s σ H En I ⟨n, ow, ρ, st, h, f⟩ => (ps_par hc hN hi hj hij hx hy (pa_cons ha (pa_cons hb pa_nil s2) s1) hw hs).run pins s σ H En I ?_⟩
  have f : FinC W n E En (bnd (ev Γ ρ A) (fun u => bnd (ev Γ (after A u ρ) B) fun v => ret (.nx (((after B v (after A u ρ)).set j (some (v, fresh B && isLst v))).set i (some (u, fresh A && isLst u))))) st) := f
  refine h.ask f fun d1 st1 H1 u g1 w1 r1 f1 => ?_
  obtain ⟨m, hm⟩ := above (j :: (vars B ++ [ρ.length]))
  have km : ∀ z ∈ j :: (vars B ++ [ρ.length]), m ≠ z := fun z hz q => absurd (hm z hz) (by omega)
  have hlen : ρ.length ≤ m := Nat.le_of_lt (hm _ (by simp))
  have hlσ : σ.length ≤ m := by rw [← h.len]; exact hlen
  obtain ⟨ow1, e1, k1, k2', k3, k4⟩ := h.store (i := m) g1 w1 r1
  rw [set_far (by rw [after_len]; exact hlen), set_far hlσ] at e1
  have hd : Held W n ow1 m (fresh A && isLst d1) d1 u H1 := ⟨k3, k4⟩
  refine e1.ask f1 fun d2 st2 H2 v g2 w2 r2 f2 => ⟨u, v, rfl, ?_⟩
  show En.nx ((σ.set i (some u)).set j (some v)) H2
  obtain ⟨ow2, e2, q1, q2, _, _⟩ := e1.store (i := j) g2 w2 r2
  have hd2 := hd.on e1 g2 (fun q hq hk => q1 q hq (by rw [hk]; exact fun z => km _ (List.mem_cons_of_mem _ (List.mem_append_left _ z)) rfl) (by rw [hk]; exact km _ List.mem_cons_self)) q2
  obtain ⟨ow3, e3⟩ := e2.adopt (i := i) hd2 (by rw [List.length_set, after_len, after_len]; exact hlen)
  rw [List.set_comm _ _ hij]
  exact f2 ow3 _ H2 e3
end
end Mp
end
section
/-! Mp: remove from one's own list. -/
namespace Mp
open PySem PySem.Spec
                                                                                                    PyProof.Rows L2

theorem remD_at {d : D} : ∀ {ds ds' : List D}, remD d ds = some ds' → ∃ j, SeqAt.dataPlace (pys ds) (py d) = some j ∧ ds' = ds.eraseIdx j
  | [], _, h => by cases h
  | x :: xs, ds', h => by
    unfold remD at h
    unfold SeqAt.dataPlace
    rw [pys, List.findIdx?_cons]
    by_cases c : eqv x d = true
    · rw [if_pos c] at h
      cases h
      have c : PyData.eqv (py x) (py d) = true := c
      rw [c]
      exact ⟨0, rfl, rfl⟩
    · rw [if_neg c] at h
      obtain ⟨r, h1, rfl⟩ := Option.map_eq_some_iff.mp h
      obtain ⟨j, h2, rfl⟩ := remD_at h1
      have c : PyData.eqv (py x) (py d) = false := by simpa [eqv] using c
      unfold SeqAt.dataPlace at h2
      rw [c, h2]
      exact ⟨j + 1, rfl, rfl⟩
theorem Reps.erase {W : Wp} {Z : Zp} {F : Hp} : ∀ {ds : List D} {vs : List V} (j : Nat), Reps W Z F ds vs → Reps W Z F (ds.eraseIdx j) (vs.eraseIdx j)
  | [], vs, j, h => by
    have e : vs = [] := h
    subst e
    rfl
  | d :: ds, vs, 0, h => by
    obtain ⟨v, r, rfl, _, h2⟩ := h
    exact h2
  | d :: ds, vs, j + 1, h => by
    obtain ⟨v, r, rfl, h1, h2⟩ := h
    exact ⟨v, _, rfl, h1, Reps.erase j h2⟩
theorem vals_erase : ∀ {vs : List V} {us : List Value} (j : Nat), Vals vs us → Vals (vs.eraseIdx j) (us.eraseIdx j)
  | _, _, _, .nil => .nil
  | _, _, 0, .cons _ t => t
  | _, _, j + 1, .cons h t => .cons h (vals_erase j t)
theorem pys_length : ∀ ds : List D, (pys ds).length = ds.length
  | [] => rfl
  | a :: r => by rw [pys, List.length_cons, List.length_cons, pys_length r]
def rRem (W : Wp) : V → List V → Hp → VK → Prop := fun x xs H Q => ∃ Z B1 B2 ds d us v j p, x = .ref p ∧ xs = [v] ∧ H p = some (.lst us) ∧ Reps W Z (hid B1 H) ds us ∧ Rep W Z (hid B2 H) d v ∧ shp d = true ∧ shp (.lst ds) = true ∧ SeqAt.dataPlace (pys ds) (py d) = some j ∧ Q .non (upd H p (.lst (us.eraseIdx j)))
section
variable {X : Cx} {W : Wp} {Γ : Gam} {E : XK} {e : Expr} {A : T} {p pos apos cpos : Pos} {i : Nat} {x m : Str}
theorem mt_remD (hu : X.A.units + 66 < cLine) : MtR X "list.remove" (rRem W) := by
  intro pins s σ H x
                                                                                                    xs v us Q I rx rxs h
  obtain ⟨Z, B1, B2, ds, d, vs, y, j, l, rfl, rfl, hH, rs, rd, s1, s2, hj, q⟩ := h
  cases rx
  obtain ⟨u, rfl, ru⟩ :=
                                                                                                    vals1 rxs
  obtain ⟨z, its, n, r, hl, e⟩ :=
                                                                                                    I.lstM hH
  obtain ⟨bs, r2⟩ := Dp.reads I (py d) y u (dp_of (q := ⟨Z, B2, []⟩) d y (shp_lay s1) rd) ru
  have l2 : PyData.canLayAll0 (pys ds) = true := shp_lay s2
  obtain ⟨as, r1⟩ := Dp.readsAll I (pys ds) vs its (dps_of (q := ⟨Z, B1, []⟩) ds vs l2 rs) r
  have dd : (py d).depth ≤ 64 := shp_dep s1
  have hjn : j < its.length := by
    unfold SeqAt.dataPlace at hj
    have h1 := (List.findIdx?_eq_some_iff_getElem.mp hj).1
    have h2 : (pys ds).length = ds.length := pys_length ds
    rw [h2, rs.len, hl] at h1
    exact h1
  refine SeqAt.remove_list_data (vs := its.toArray) (j := j) ⟨_, e, rfl, n, rfl⟩ r1 r2 ((PyData.plainAll_of_canLay0 _ l2)) (PyData.plain_of_canLay0 _ (shp_lay s1)) (by omega) hj (by rw [List.size_toArray, ← hl]; exact z) ?_
  exact ⟨.non, _, I.lset (its' := its.eraseIdx j) (t' := s.toks) hH e (by simp [Array.eraseIdxIfInBounds, hjn]) (vals_erase j r) (Nat.le_trans (List.length_eraseIdx_le ..) z), rfl, q⟩
theorem s_rem (hm : m = "remove") (hu : X.A.units + 66 < cLine) (hN : X.N[i]? = some x) (hv : Vis X.env.scope x) (hd : (x == ("__debug__" : Str)) = false) (hcd : (x == ("__classdict__" : Str)) = false) (he : PE X e (tE W Γ A E))
    (hsw : swapsWith (.Call (.Attribute (.Name x p) m apos) [e] [] cpos) none pos.line X.env = pure false) (hbase : attributeBase (.Name x p) m X.env (eval (.Name x p) X.env) = eval (.Name x p) X.env) (hline : (apos.endLine == cpos.line) = true) (hs : noStar [e] = true) :
    PS X (.Expr (.Call (.Attribute (.Name x p) m apos) [e] [] cpos) pos) (tS W Γ (.rem i A) E) := by
  subst hm
  have s1 := (star_one (env := X.env) hs).1
  refine ⟨fun pins s σ H En I ⟨n, ow, ρ, st, h, f⟩ => (ps_expr (pe_bm PySem.F.plainAttrs_list PySem.F.slot_list_remove PySem.F.type_list_remove (mt_remD (W := W) hu) (pe_var hN hv hd hcd) (pa_cons he pa_nil s1) hbase (by rw [s1]; rfl) hline s1 rfl) hsw).run pins s σ H En I ?_⟩
  have f : FinC W n E En (bnd (ofO (ownL ρ i)) (fun ds => bnd (ev Γ ρ A) fun d => if shp d && shp (.lst ds) then bnd (ofO (remD d ds)) fun ds' => ret (.nx (ρ.set i (some (.lst ds', true)))) else no) st) := f
  cases ho : ownL ρ i with
  | none =>
    rw [ho] at f
    exact f.elim
  | some ds =>
    rw [ho] at f
    have f : FinC W n E En (bnd (ev Γ ρ A) (fun d => if shp d && shp (.lst ds) then bnd (ofO (remD d ds)) fun ds' => ret (.nx (ρ.set i (some (.lst ds', true)))) else no) st) := f
    have hi := ownL_some ho
    obtain ⟨ds0, p0, vs0, eq, h1, h2, h3, h4⟩ := h.own i _ hi
    cases eq
    refine ⟨.ref p0, h2, .inl ⟨rfl, _, .inl (.inl h3)⟩, h.ask f fun d st1 H1 v g w r f1 => ?_⟩
    by_cases hc : (shp d && shp (.lst ds)) = true
    · rw [if_pos hc] at f1
      obtain ⟨c1, c2⟩ := (Bool.and_eq_true ..).mp hc
      cases hr : remD d ds with
      | none =>
        rw [hr] at f1
        exact f1.elim
      | some ds' =>
        rw [hr] at f1
        obtain ⟨j, hj, rfl⟩ := remD_at hr
        have e2 := h.grow g w
        obtain ⟨ds2, p2, vs2, eq, q1, q2, q3, q4⟩ := e2.own i _ hi
        cases eq
        rw [h2] at q2
        cases q2
        exact ⟨n.Z, _, _, ds, d, vs2, v, j, p0, rfl, rfl, q3, q4, r.rep, c1, c2, hj, f1 ow σ _ (e2.put hi q1 h2 (q4.erase j))⟩
    · rw [if_neg hc] at f1
      exact f1.elim
end
end Mp
end
section
/-! Mp: a def keeps its promise. -/
namespace Mp
open PySem PySem.Spec
                                                                                                    PyProof.Rows L2

section
variable {P : Program} {w : PySem.World} {K : PySem.W.Frag} {mg : Str → Option Value} {base : Heap} {W : Wp} {Γ Γ' : Gam} {E : XK}
theorem initE_flag {m : Nat} {ds : List D} {i : Nat} {d : D} {b : Bool} (h : (initE m ds)[i]? = some (some (d, b))) : b = false := by
  unfold initE at h
  by_cases hi : i < ds.length
  · rw [List.getElem?_append_left (by simpa using hi), List.getElem?_map] at h
    cases e : ds[i]? with
    | none => rw [e]
                                                                                                    at h; cases h
    | some a => rw [e] at h; cases h; rfl
  · rw [List.getElem?_append_right (by simpa using hi), List.getElem?_replicate] at h
    split at h <;> cases h
/-- a def's entry -/
theorem env_start {q : Sit} {st : S} {H : Hp} {N : List Str} {ds : List D} {vs : List V} (s0 : Sit0 W q st H) (r : Reps W q.Z (hid q.B H) ds vs) (h : ds.length ≤ N.length) : EnvAt W ⟨q.Z, q.B, H, []⟩ [] (initE N.length ds) st (L2.start N vs) H :=
  ⟨s0.sS, s0.sL, ⟨st, s0.w⟩, s0.hB, .refl _ _, s0.w, by rw [initE_len h, start_len (by rw [← r.len]; exact h)], fun p hp => (by cases hp), fun p hp => (by cases hp), fun i j a hp => (by cases hp), fun i d e => (by have := initE_flag e; cases this), fun i d e => by
    have hg : getE (initE N.length ds) i = some d := by
      unfold getE
      rw [e]
    obtain ⟨v, h1, h2⟩ := r.get (initE_get hg)
    exact ⟨v, start_get h1, h2⟩, fun m hm => (by cases hm)⟩
theorem fin_start {q : Sit} {st : S} {H : Hp} {cs : List C} {ρ : Env} {Q : VK} (f : Fin W q E (fun d H' => ∀ v, Rep W q.Z (hid q.B H') d v → Q v H') (bnd (evCs Γ cs ρ) outD st) H) :
    FinC W ⟨q.Z, q.B, H, []⟩ E { nx := fun _ H' => Q .non H', rt := Q } (evCs Γ cs ρ st) := by
  unfold bnd at f
  cases e : evCs Γ cs ρ st with
  | no => rw [e] at f; exact f.elim
  | exc x s1 => rw [e] at f; exact f
  | ok o s1 =>
    rw [e] at f
    cases o with
    | nx ρ' => exact fun ow σ H' h => f H' h.gr h.w .non rfl
    | rt d => exact fun v H' g w r => f H' g w v r
    | bk ρ' => exact f.elim
    | ct ρ' => exact f.elim
theorem fn_g {x : Str} {s0 : Stmt} {f : Addr} {fd : FuncData} {N ps : List Str} {k : Nat} {cs : List C} (F : C8.Fun K x x s0 f fd) (S : FnScope N ps (C8.fnScope s0)) (hN : ps.length ≤ N.length) (hΓ : ∀ ds, ds.length = ps.length → Γ x ds = bnd (evCs Γ' cs (initE N.length ds)) outD)
    (hb : ∀ (cdv : Value) (A : Around) (outer : List PySem.Env) (s : Shared) (H : Hp) (E : XK), RoomG k (A.deeper (envOfC x (C8.fnScope s0) s.heap.objs.size f cdv)) → PSs (cxOf CX0 P w K mg base N x (C8.fnScope s0) f cdv A outer s H E).nox (C8.fnBody s0) (tSs W Γ' cs E)) :
    FnG P w K mg base CX0 (k + 1) f fd ps (spD W Γ x ps.length) := by
  obtain ⟨oc, od, dV, kV, doc, pm, an, cdv, ct, osl, rfl, lk, hcd⟩ :=
                                                                                                    F.ex
  refine ⟨fun vs H Q E h => h.1, fun A outer s H args us vs Q E hr e0 hbd rv hsp => ?_⟩
  obtain ⟨hl, q, st, ds, z0, rd, fin⟩ := hsp
  have hds : ds.length = ps.length := by rw [rd.len]; exact hl
  rw [hΓ ds hds] at fin
  exact LamX.run_ofS lk hcd S hr.r e0 hbd rv hl fun _ => ⟨_, (hb cdv A outer s H E (hr.deeper _)).nox, ⟨q.Z, q.B, H, []⟩, [], initE N.length ds, st, env_start z0 rd (by omega), fin_start fin⟩
end
end Mp
end
section
/-! Mp: what the compiler of the text asks of an expression beside its parts. -/
namespace Mp
open PySem PySem.Spec
                                                                                                    PyProof.Rows L2

/-- no comprehension stands there -/
def noComp : Expr → Bool
  | .ListComp .. => false
  | .SetComp .. => false
  | .DictComp .. => false
  | _ => true
theorem sw_none {e : Expr} {t : Option Expr} {l : Nat} {env : PySem.Env} (h : noComp e = true) : swapsWith e t l env = pure false := by
  cases e <;> first | rfl | (simp [noComp] at h)
/-- a comprehension's store to a name -/
def swN (sc cs : Scope) (x : Str) (l1 l2 : Nat) : Bool := decide (sc.names.lookup x = some .local) && decide (l1 = l2) && !(cs.names.any fun p => p.1 == x && (p.2 == .local || p.2 == .cell))
theorem sw_name {elt : Expr} {gs : List Comprehension} {cs : Scope} {pos p : Pos} {x : Str} {l : Nat} {env : PySem.Env} (hk : env.scope.kind = .function) : swapsWith (.ListComp elt gs cs pos) (some (.Name x p)) l env = pure (swN env.scope cs x p.line pos.line) := by
  have hb : (env.blockKind == ScopeKind.function) = true := by
    unfold Env.blockKind
    rw [hk]
    rfl
  have h1 : (env.kindOf x == some NameKind.local) = decide (env.scope.names.lookup x = some .local) := by
    show (env.scope.names.lookup x == some NameKind.local) = _
    by_cases h : env.scope.names.lookup x = some .local
    · rw [h]
      simp
    · simp [h]
  show (pure (env.blockKind == .function && env.kindOf x == some .local && p.line == pos.line && !(cs.names.any fun (n, k) => n == x && (k == .local || k == .cell))) : Sem Bool) = _
  rw [hb, h1, Bool.true_and]
  unfold swN
  have h2 : (p.line == pos.line) = decide (p.line = pos.line) := by
    by_cases h : p.line = pos.line <;> simp [h]
  rw [h2]
/-- no set display -/
def noSet : Expr → Bool
  | .Set .. => false
  | _ => true
theorem fs_pure {e : Expr} {env : PySem.Env} (h : noSet e = true) : ∀ x, foldedSetIterable e env x = pure x := by
  intro x
  cases e <;> first | rfl | (simp [noSet] at h)
/-- neither a set display nor a list display -/
def noDisp : Expr → Bool
  | .Set .. => false
  | .List .. => false
  | _ => true
theorem gf_pure {e : Expr} {env : PySem.Env} (h : noDisp e = true) : ∀ x, genFold e env x = pure x := by
  intro x
  cases e <;> first | rfl | (simp [noDisp] at h)
theorem ab_name {x m : Str} {p : Pos} {env : PySem.Env} {t : Sem Value} : attributeBase (.Name x p) m env t = t := rfl
/-- no tuple is stored to a tuple -/
def noTupE : Expr → Bool
  | .Tuple .. => false
  | _ => true
theorem ss_none {ts : List Expr} {k : Nat} {p : Pos} {e : Expr} {env : PySem.Env} (h : noTupE e = true) : swappedStores [.Tuple ts k p] e env = pure none := by
  cases e <;> first | rfl | (simp [noTupE] at h)
/-- two names at once -/
def par2 (a b : Expr) : Bool := !(foldedForSure 8 a && foldedForSure 8 b) && !(constantsAlone 8 a && constantsAlone 8 b) && noStar [a, b]
theorem ss_two {x y : Str} {px py pt : Pos} {k k2 : Nat} {pt2 : Pos} {a b : Expr} {env : PySem.Env} (hk : env.scope.kind = .function) (hx : env.scope.names.lookup x = some .local) (hy : env.scope.names.lookup y = some .local) (hl : py.line = px.line) (hne : x ≠ y) (h : par2 a b = true) :
    swappedStores [.Tuple [.Name x px, .Name y py] k pt] (.Tuple [a, b] k2 pt2) env = pure (some [x, y]) := by
  have hb : env.blockKind = ScopeKind.function := by
    unfold Env.blockKind
    rw [hk]
    rfl
  unfold par2 at h
  simp only [Bool.and_eq_true, Bool.not_eq_true']
                                                                                                    at h
  obtain ⟨⟨h1, h2⟩, h3⟩ := h
  have k1 : env.kindOf x = some .local := hx
  have k2 : env.kindOf y = some .local := hy
  have h4 := (star_one (env := env) h3).2
  have yx : (y == x) = false := beq_eq_false_iff_ne.mpr (Ne.symm hne)
  unfold swappedStores
  simp [hb, k1, k2, hl, Expr.pos, h1, h2, List.eraseDups, List.eraseDupsBy, List.eraseDupsBy.loop, yx]
  rintro (h | h)
  · cases a <;> first | (cases h; done) | (simp [noStar] at h3)
  · cases b <;> first | (cases h; done) | (simp [noStar] at h4)
end Mp
end
section
/-! Mp: what the compiler of the text knows. -/
namespace Mp
open PySem PySem.Spec
                                                                                                    PyProof.Rows L2

/-- a name's slot -/
def slotOf (x : Str) : List Str → Option Nat
  | [] => none
  | y :: r => if y = x then some 0 else (slotOf x r).map (· + 1)
theorem slot_at {x : Str} : ∀ {N : List Str} {i : Nat}, slotOf x N = some i → N[i]? = some x
  | [], i, h => by cases h
  | y :: r, i, h => by
    unfold slotOf at h
    by_cases e : y = x
    · rw [if_pos e] at h
      cases h
      rw [e]
      rfl
    · rw [if_neg e] at h
      obtain ⟨j, h1, rfl⟩ := Option.map_eq_some_iff.mp h
      have ih := slot_at (N := r) h1
      rw [List.getElem?_cons_succ]
      exact ih
/-- seen in the scope -/
def visB (sc : Scope) (x : Str) : Bool := decide (sc.names.lookup x = some .local) || decide (sc.names.lookup x = some .cell) || decide (sc.names.lookup x = some .free)
theorem vis_of {sc : Scope} {x : Str} (h : visB sc x = true) : Vis sc x := by
  unfold visB at h
  simp only [Bool.or_eq_true, decide_eq_true_eq] at h
  exact h.elim (fun h => h.elim .inl fun h => .inr (.inl h)) fun h => .inr (.inr h)
/-- stored in the scope -/
def locB (sc : Scope) (x : Str) : Bool := decide (sc.names.lookup x = some .local) || decide (sc.names.lookup x = some .cell)
theorem loc_of {sc : Scope} {x : Str} (h : locB sc x = true) : Loc sc x := by
  unfold locB at h
  simp only [Bool.or_eq_true, decide_eq_true_eq] at h
  exact h
/-- a name of the module, or built in -/
def glbB (sc : Scope) (x : Str) : Bool := decide (sc.names.lookup x = some .globalImplicit)
/-- no name of Python's own -/
def okN (x : Str) : Bool := !(x == ("__debug__" : Str)) && !(x == ("__classdict__" : Str)) && !(x == ("__name__" : Str))
structure OkN (x : Str) : Prop where
  db : (x == ("__debug__" : Str)) = false
  cd : (x == ("__classdict__" : Str)) = false
  nm : (x == ("__name__" : Str)) = false
theorem okN_of {x : Str} (h : okN x = true) : OkN x := by
  unfold okN at h
  simp only [Bool.and_eq_true, Bool.not_eq_true']
                                                                                                    at h
  exact ⟨h.1.1, h.1.2, h.2⟩
end Mp
end
section
/-! Mp: the compiler of expressions: each result with its proof. -/
namespace Mp
open PySem PySem.Spec
                                                                                                    PyProof.Rows L2

/-- a context, statically -/
structure Ct where
  N : List Str
  sc : Scope
  code : Bool
  fn : Bool
  d : Nat
/-- the module, statically -/
structure Gi where
  defs : List (Str × List (Nat × List Str × List Nat))
  nums : List (Str × Int)
  blt : List Str
structure Ok (gi : Gi) (W : Wp) (Γ : Gam) (K0 : Nat) (ct : Ct) (X : Cx) : Prop where
  N : X.N = ct.N
  nd : X.N.Nodup
  sc : X.env.scope = ct.sc
  calm : X.calm = true
  fn : ct.fn = true → ∀ x, X.fn x = true
  room : RoomG (K0 + ct.d) X.A
  own : PassesOwn (model X.prog X.w) X.A X.env X.xe
  defs : ∀ p ∈ gi.defs, DefOk X.prog X.w X.K X.mg X.base CX0 K0 W Γ p.1 p.2
  nums : ∀ p ∈ gi.nums, ∃ t, X.mg p.1 = some (.int p.2 t)
  blt : ∀ x ∈ gi.blt, X.mg x = none
  lam : ∀ lx, LamOk X.prog X.w X.K X.mg X.base CX0 K0 W Γ lx
  code : ct.code = true → ∃ c P, LamX.TabB X.base X.mg c P ∧ X.env.code = .ref c ∧ P ∈ W.tabs ∧ ∀ p ∈ W.ltabs, p.1 ≠ P
theorem Ok.units {gi : Gi} {W : Wp} {Γ : Gam} {K0 : Nat} {ct : Ct} {X : Cx} (o : Ok gi W Γ K0 ct X) : X.A.units + 70 < cLine := by
  have := o.room.r.un
  omega
section
variable (gi : Gi) (W : Wp) (Γ : Gam) (K0 : Nat)
structure CE (ct : Ct) (e : Expr) where
  t : T
  ok : ∀ E X, Ok gi W Γ K0 ct X → PE X e (tE W Γ t E)
structure CT (ct : Ct) (e : Expr) where
  t : T
  ok : ∀ E X, Ok gi W Γ K0 ct X → PT X e (tT W Γ t E)
structure CW (ct : Ct) (e : Expr) where
  t : T
  ok : ∀ E X, Ok gi W Γ K0 ct X → PW X e (tT W Γ t E)
structure CA (ct : Ct) (es : List Expr) where
  ts : List T
  ok : ∀ E X, Ok gi W Γ K0 ct X → PA X es (tA W Γ ts E)
  len : ts.length = es.length ∨ ts = [.never]
structure CI (ct : Ct) (tg it : Expr) where
  k : IK
  ts : List T
  ok : ∀ E X, Ok gi W Γ K0 ct X → PI X tg it (iX W Γ k ts E)
structure CG (ct : Ct) (tg : Expr) where
  g : G
  ok : ∀ X, Ok gi W Γ K0 ct X → PG X tg (tG W g)
variable {gi W Γ K0}
def neverE {ct : Ct} {e : Expr} : CE gi W Γ K0 ct e := ⟨.never, fun _ _ _ => r_never⟩
def neverT {ct : Ct} {e : Expr} : CT gi W Γ K0 ct e := ⟨.never, fun _ _ _ => rt_never⟩
def numOf (x : Str) : List (Str × Int) → Option Int
  | [] => none
  | (y, i) :: r => if y = x then some i else numOf x r
theorem num_mem {x : Str} {i : Int} : ∀ {l : List (Str × Int)}, numOf x l = some i → (x, i) ∈ l
  | [], h => by cases h
  | (y, j) :: r, h => by
    unfold numOf at h
    by_cases e : y = x
    · rw [if_pos e] at h
      cases h
      rw [e]
      exact List.mem_cons_self
    · rw [if_neg e] at h
      exact List.mem_cons_of_mem _ (num_mem h)
theorem Ok.gl {ct : Ct} {X : Cx} (o : Ok gi W Γ K0 ct X) {x : Str} (h : glbB ct.sc x = true) : Gl X x := by
  unfold glbB at h
  show X.env.scope.names.lookup x = _
  rw [o.sc]
  exact of_decide_eq_true h
def eName (ct : Ct) (x : Str) (pos : Pos) : CE gi W Γ K0 ct (.Name x pos) :=
  match hs : slotOf x ct.N with
  | some i => if h : (visB ct.sc x && okN x) = true then ⟨.var i, fun E X o => r_var (by rw [o.N]; exact slot_at hs) (by rw [o.sc]; exact vis_of ((Bool.and_eq_true ..).mp h).1) (okN_of ((Bool.and_eq_true ..).mp h).2).db (okN_of ((Bool.and_eq_true ..).mp h).2).cd⟩ else neverE
  | none => match hn : numOf x gi.nums with
    | some i => if h : (glbB ct.sc x && okN x) = true then ⟨.gint x i, fun E X o => r_gint (by
        obtain ⟨t, ht⟩ := o.nums _ (num_mem hn)
        exact pe_glob (o.gl ((Bool.and_eq_true ..).mp h).1) ht ⟨t, rfl⟩ (okN_of ((Bool.and_eq_true ..).mp h).2).db)⟩ else neverE
    | none => neverE
def eConst (ct : Ct) (c : Const) (k : Nat) (pos : Pos) : CE gi W Γ K0 ct (.Constant c k pos) :=
  match c with
  | .int i => ⟨.con (.int i), fun E X o => r_con pe_int (fun _ _ => rfl) rfl⟩
  | .bool b => ⟨.con (.bl b), fun E X o => r_con pe_bl (fun _ _ => rfl) rfl⟩
  | .none => ⟨.con .non, fun E X o => r_con pe_non (fun _ _ => rfl) rfl⟩
  | .str x => ⟨.con (.str x), fun E X o => r_con pe_str (fun _ _ => rfl) rfl⟩
  | _ => neverE
def eBin (ct : Ct) {a b : Expr} (op : Operator) (pos : Pos) (A : CE gi W Γ K0 ct a) (B : CE gi W Γ K0 ct b) : CE gi W Γ K0 ct (.BinOp a op b pos) := ⟨.bin op A.t B.t, fun E X o => r_bin (A.ok E X o) (B.ok E X o)⟩
def eIf (ct : Ct) {c a b : Expr} (pos : Pos) (C : CT gi W Γ K0 ct c) (A : CE gi W Γ K0 ct a) (B : CE gi W Γ K0 ct b) : CE gi W Γ K0 ct (.IfExp c a b pos) := ⟨.ite C.t A.t B.t, fun E X o => r_ite (C.ok E X o) (A.ok E X o) (B.ok E X o)⟩
def eCmp (ct : Ct) {a b : Expr} (op : CmpOp) (pos : Pos) (A : CE gi W Γ K0 ct a) (B : CE gi W Γ K0 ct b) : CE gi W Γ K0 ct (.Compare a [op] [b] pos) :=
  if h : behindInMarks op b = false then ⟨.cmp op A.t B.t, fun E X o => r_cmp (by have := o.units; omega) h (A.ok E X o) (B.ok E X o)⟩ else neverE
def tCmp (ct : Ct) {a b : Expr} (op : CmpOp) (pos : Pos) (A : CE gi W Γ K0 ct a) (B : CE gi W Γ K0 ct b) : CT gi W Γ K0 ct (.Compare a [op] [b] pos) :=
  if h : behindInMarks op b = false then ⟨.cmp op A.t B.t, fun E X o => rt_cmp (by have := o.units; omega) h (A.ok E X o) (B.ok E X o)⟩ else neverT
def eChn (ct : Ct) {a b c : Expr} (p q : CmpOp) (pos : Pos) (A : CE gi W Γ K0 ct a) (B : CE gi W Γ K0 ct b) (C : CE gi W Γ K0 ct c) : CE gi W Γ K0 ct (.Compare a [p, q] [b, c] pos) :=
  if h : lastMarks [p, q] [b, c] = false then ⟨.chn p q A.t B.t C.t, fun E X o => r_chn (by have := o.units; omega) h (A.ok E X o) (B.ok E X o) (C.ok E X o)⟩ else neverE
def tChn (ct : Ct) {a b c : Expr} (p q : CmpOp) (pos : Pos) (A : CE gi W Γ K0 ct a) (B : CE gi W Γ K0 ct b) (C : CE gi W Γ K0 ct c) : CT gi W Γ K0 ct (.Compare a [p, q] [b, c] pos) :=
  if h : lastMarks [p, q] [b, c] = false then ⟨.chn p q A.t B.t C.t, fun E X o => rt_chn (by have := o.units; omega) h (A.ok E X o) (B.ok E X o) (C.ok E X o)⟩ else neverT
def eNeg (ct : Ct) {a : Expr} (pos : Pos) (A : CE gi W Γ K0 ct a) : CE gi W Γ K0 ct (.UnaryOp .USub a pos) := ⟨.neg A.t, fun E X o => r_neg (A.ok E X o)⟩
def eNot (ct : Ct) {a : Expr} (pos : Pos) (A : CE gi W Γ K0 ct a) : CE gi W Γ K0 ct (.UnaryOp .Not a pos) := ⟨.nt A.t, fun E X o => r_nt (A.ok E X o)⟩
def tNot (ct : Ct) {a : Expr} (pos : Pos) (A : CT gi W Γ K0 ct a) : CT gi W Γ K0 ct (.UnaryOp .Not a pos) := ⟨.nt A.t, fun E X o => rt_nt (A.ok E X o)⟩
/-- and, or of several -/
def eBool (ct : Ct) (f : ∀ e, CE gi W Γ K0 ct e) (op : BoolOp) (pos : Pos) : ∀ es, CE gi W Γ K0 ct (.BoolOp op es pos)
  | [] => neverE
  | [a] => ⟨(f a).t, fun E X o => r_one ((f a).ok E X o)⟩
  | a :: b :: r => match op with
    | .And => ⟨.an (f a).t (eBool ct f .And pos (b :: r)).t, fun E X o => r_an ((f a).ok E X o) ((eBool ct f .And pos (b :: r)).ok E X o)⟩
    | .Or => ⟨.orr (f a).t (eBool ct f .Or pos (b :: r)).t, fun E X o => r_orr ((f a).ok E X o) ((eBool ct f .Or pos (b :: r)).ok E X o)⟩
def wBool (ct : Ct) (f : ∀ e, CT gi W Γ K0 ct e) (op : BoolOp) (pos : Pos) : ∀ a r, CW gi W Γ K0 ct (.BoolOp op (a :: r) pos)
  | a, [] => ⟨(f a).t, fun E X o => w_one ((f a).ok E X o)⟩
  | a, b :: r => match op with
    | .And => ⟨.an (f a).t (wBool ct f .And pos b r).t, fun E X o => w_an ((f a).ok E X o) ((wBool ct f .And pos b r).ok E X o)⟩
    | .Or => ⟨.orr (f a).t (wBool ct f .Or pos b r).t, fun E X o => w_orr ((f a).ok E X o) ((wBool ct f .Or pos b r).ok E X o)⟩
/-- arguments -/
structure CAs (gi : Gi) (W : Wp) (Γ : Gam) (K0 : Nat) (ct : Ct) (es : List Expr) where
  ts : List T
  len : ts.length = es.length
  ok : noStar es = true → ∀ E X, Ok gi W Γ K0 ct X → PA X es (tA W Γ ts E)
def eAll (ct : Ct) (f : ∀ e, CE gi W Γ K0 ct e) : ∀ es, CAs gi W Γ K0 ct es
  | [] => ⟨[], rfl, fun _ _ _ _ => r_nil⟩
  | a :: r => ⟨(f a).t :: (eAll ct f r).ts, by rw [List.length_cons, List.length_cons, (eAll ct f r).len], fun h E X o => r_cons ((f a).ok E X o) ((eAll ct f r).ok (star_one (env := X.env) h).2 E X o) (star_one (env := X.env) h).1⟩
def eTup (ct : Ct) {es : List Expr} (k : Nat) (pos : Pos) (A : CAs gi W Γ K0 ct es) : CE gi W Γ K0 ct (.Tuple es k pos) := if h : noStar es = true then ⟨.tup A.ts, fun E X o => r_tup (A.ok h E X o)⟩ else neverE
def eLst (ct : Ct) {es : List Expr} (pos : Pos) (A : CAs gi W Γ K0 ct es) : CE gi W Γ K0 ct (.List es pos) := if h : noStar es = true then ⟨.lst A.ts, fun E X o => r_lst (A.ok h E X o)⟩ else neverE
/-- no slice -/
def noSl : Expr → Bool
  | .Slice .. => false
  | _ => true
theorem ix_plain {b : Expr} (h : noSl b = true) : PlainIx b := fun o i => by
  cases b <;> first | rfl | (simp [noSl] at h)
def eIx (ct : Ct) {a b : Expr} (pos : Pos) (A : CE gi W Γ K0 ct a) (B : CE gi W Γ K0 ct b) : CE gi W Γ K0 ct (.Subscript a b pos) :=
  if h : noSl b = true then ⟨.ix A.t B.t, fun E X o => r_ix (by have := o.units; omega) (A.ok E X o) (B.ok E X o) (ix_plain h)⟩ else neverE
/-- a slice's side -/
structure CO (gi : Gi) (W : Wp) (Γ : Gam) (K0 : Nat) (ct : Ct) (e : Option Expr) where
  t : Option T
  ok : ∀ E X, Ok gi W Γ K0 ct X → PO X e (tO W Γ t E)
def eOpt (ct : Ct) (f : ∀ e, CE gi W Γ K0 ct e) : ∀ e, CO gi W Γ K0 ct e
  | none => ⟨none, fun _ _ _ => o_none⟩
  | some e => ⟨some (f e).t, fun E X o => o_some ((f e).ok E X o)⟩
def eSl (ct : Ct) {a : Expr} {lo hi : Option Expr} (p2 pos : Pos) (A : CE gi W Γ K0 ct a) (L : CO gi W Γ K0 ct lo) (U : CO gi W Γ K0 ct hi) : CE gi W Γ K0 ct (.Subscript a (.Slice lo hi none p2) pos) :=
  ⟨.sl A.t L.t U.t, fun E X o => r_sl (A.ok E X o) (L.ok E X o) (U.ok E X o)⟩
end
end Mp
end
section
/-! Mp: the compiler of calls. -/
namespace Mp
open PySem PySem.Spec
                                                                                                    PyProof.Rows L2

section
variable {gi : Gi} {W : Wp} {Γ : Gam} {K0 : Nat}
theorem DefOk.up {P : Program} {w : PySem.World} {K : PySem.W.Frag} {mg : Str → Option Value} {base : Heap} {CX : CXT} {j k : Nat} {x : Str} {pats : List (Nat × List Str × List Nat)} (D : DefOk P w K mg base CX j W Γ x pats) (h : j ≤ k) : DefOk P w K mg base CX k W Γ x pats := by
  obtain ⟨f, fd, ps, h1, h2, F, h3⟩ := D.ex
  exact ⟨f, fd, ps, h1, h2, F.mono h, h3⟩
theorem LamOk.up {P : Program} {w : PySem.World} {K : PySem.W.Frag} {mg : Str → Option Value} {base : Heap} {CX : CXT} {j k : Nat} {lx : Str} (L : LamOk P w K mg base CX j W Γ lx) (h : j ≤ k) : LamOk P w K mg base CX k W Γ lx :=
  ⟨fun A outer s H f us vs Q E q st ds cs hr => L.run A outer s H f us vs Q E q st ds cs (hr.mono h)⟩
/-- the patterns of a def -/
def patsOf (x : Str) : List (Str × List (Nat × List Str × List Nat)) → Option (List (Nat × List Str × List Nat))
  | [] => none
  | (y, p) :: r => if y = x then some p else patsOf x r
theorem pats_mem {x : Str} {p : List (Nat × List Str × List Nat)} : ∀ {l : List (Str × List (Nat × List Str × List Nat))}, patsOf x l = some p → (x, p) ∈ l
  | [], h => by cases h
  | (y, q) :: r, h => by
    unfold patsOf at h
    by_cases e : y = x
    · rw [if_pos e] at h
      cases h
      rw [e]
      exact List.mem_cons_self
    · rw [if_neg e] at h
      exact List.mem_cons_of_mem _ (pats_mem h)
/-- the pattern of a call -/
def patAt (n : Nat) (ks : List Str) : List (Nat × List Str × List Nat) → Option (List Nat)
  | [] => none
  | (m, js, perm) :: r => if m = n ∧ js = ks then some perm else patAt n ks r
theorem pat_mem {n : Nat} {ks : List Str} {perm : List Nat} : ∀ {l : List (Nat × List Str × List Nat)}, patAt n ks l = some perm → (n, ks, perm) ∈ l
  | [], h => by cases h
  | (m, js, p) :: r, h => by
    unfold patAt at h
    by_cases e : m = n ∧ js = ks
    · rw [if_pos e] at h
      cases h
      rw [e.1, e.2]
      exact List.mem_cons_self
    · rw [if_neg e] at h
      exact List.mem_cons_of_mem _ (pat_mem h)
/-- keywords -/
structure CK (gi : Gi) (W : Wp) (Γ : Gam) (K0 : Nat) (ct : Ct) (kws : List Keyword) where
  ts : List T
  len : ts.length = kws.length
  ok : ∀ E X, Ok gi W Γ K0 ct X → PK X kws (tA W Γ ts E)
def eKws (ct : Ct) (f : ∀ e, CE gi W Γ K0 ct e) : ∀ kws, CK gi W Γ K0 ct kws
  | [] => ⟨[], rfl, fun _ _ _ => k_nil⟩
  | ⟨nm, e, kp⟩ :: r => ⟨(f e).t :: (eKws ct f r).ts, by rw [List.length_cons, List.length_cons, (eKws ct f r).len], fun E X o => k_cons ((f e).ok E X o) ((eKws ct f r).ok E X o)⟩
theorem kwNames_len : ∀ {kws : List Keyword} {ks : List Str}, kwNames kws = some ks → ks.length = kws.length
  | [], ks, h => by
    cases h
    rfl
  | ⟨some n, e, p⟩ :: r, ks, h => by
    obtain ⟨js, h1, rfl⟩ := Option.map_eq_some_iff.mp (show (kwNames r).map (n :: ·) = some ks from h)
    rw [List.length_cons, List.length_cons, kwNames_len h1]
  | ⟨none, e, p⟩ :: r, ks, h => by cases h
/-- a call of a def -/
def eCall (ct : Ct) (x : Str) {es : List Expr} {kws : List Keyword} (p pos : Pos) (A : CAs gi W Γ K0 ct es) (B : CK gi W Γ K0 ct kws) : CE gi W Γ K0 ct (.Call (.Name x p) es kws pos) :=
  if h : (glbB ct.sc x && okN x && noStar es) = true then
    match hd : patsOf x gi.defs with
    | none => neverE
    | some pats => match hk : kwNames kws with
      | none => neverE
      | some ks => match hp : patAt es.length ks pats with
        | none => neverE
        | some perm => ⟨.call x (A.ts ++ B.ts) perm, fun E X o => by
          simp only [Bool.and_eq_true]
                                                                                                    at h
          have D := (o.defs _ (pats_mem hd)).up (Nat.le_add_right K0 ct.d)
          have hlk : B.ts.length = ks.length := by rw [B.len, kwNames_len hk]
          cases es with
          | nil =>
            have e0 : A.ts = [] := List.eq_nil_of_length_eq_zero A.len
            rw [e0, List.nil_append]
            exact r_call0 D o.room (o.gl h.1.1) pass0 (pat_mem hp) (B.ok E X o) hlk hk (okN_of h.1.2).db
          | cons e es => exact r_call D o.room (o.gl h.1.1) pass0 (pat_mem hp) (A.ok h.2 E X o) A.len (B.ok E X o) hlk hk h.2 (okN_of h.1.2).db⟩
  else neverE
/-- a call of a closure -/
def eCallv (ct : Ct) (x : Str) {es : List Expr} (p pos : Pos) (A : CAs gi W Γ K0 ct es) : CE gi W Γ K0 ct (.Call (.Name x p) es [] pos) :=
  match hs : slotOf x ct.N with
  | none => neverE
  | some i => if h : (visB ct.sc x && okN x && noStar es) = true then
      match es, A with
      | [], _ => neverE
      | e :: es, A => ⟨.callv i A.ts, fun E X o => by
        simp only [Bool.and_eq_true]
                                                                                                    at h
        exact r_callv (fun lx => (o.lam lx).up (Nat.le_add_right K0 ct.d)) o.room pass0 (by rw [o.N]; exact slot_at hs) (by rw [o.sc]; exact vis_of h.1.1) (okN_of h.1.2).db (okN_of h.1.2).cd (A.ok h.2 E X o) h.2⟩
    else neverE
end
end Mp
end
section
/-! Mp: the compiler of built-in functions. -/
namespace Mp
open PySem PySem.Spec
                                                                                                    PyProof.Rows L2

def biOf (x : Str) : Option BI :=
  if x = "len" then some .len else if x = "tuple" then some .tup else if x = "list" then some .lst else if x = "sorted" then some .srt else if x = "int" then some .int else if x = "min" then some .min else if x = "max" then some .max else if x = "repr" then some .rep else none
section
variable {gi : Gi} {W : Wp} {Γ : Gam} {K0 : Nat}
theorem bi_ok {ct : Ct} {X : Cx} (o : Ok gi W Γ K0 ct X) {x : Str} {b : BI} (h : biOf x = some b) :
    (∃ id, bootBuiltins x = some (.builtin id) ∧ CallR X (.builtin id) (rBi W b)) ∨ ∃ ty, bootBuiltins x = some (.type ty) ∧ CallR X (.type ty) (rBi W b) := by
  have hu := o.units
  unfold biOf at h
  split at h
  · rename_i e; cases h; subst e; exact .inl ⟨_, by decide +kernel, cr_len⟩
  split at h
  · rename_i e; cases h; subst e; exact .inr ⟨_, by decide +kernel, cr_tup⟩
  split at h
  · rename_i e; cases h; subst e; exact .inr ⟨_, by decide +kernel, cr_lst⟩
  split at h
  · rename_i e; cases h; subst e; exact .inl ⟨_, by decide +kernel, cr_srt (by omega)⟩
  split at h
  · rename_i e; cases h; subst e; exact .inr ⟨_, by decide +kernel, cr_int⟩
  split at h
  · rename_i e; cases h; subst e; exact .inl ⟨_, by decide +kernel, cr_min o.calm⟩
  split at h
  · rename_i e; cases h; subst e; exact .inl ⟨_, by decide +kernel, cr_max o.calm⟩
  split at h
  · rename_i e; cases h; subst e; exact .inl ⟨_, by decide +kernel, cr_rep (by omega) o.room.g⟩
  cases h
def eBi (ct : Ct) (x : Str) (p pos : Pos) : ∀ {es : List Expr}, CAs gi W Γ K0 ct es → CE gi W Γ K0 ct (.Call (.Name x p) es [] pos)
  | [], _ => neverE
  | e :: es, A => if h : (glbB ct.sc x && okN x && noStar (e :: es) && gi.blt.contains x) = true then
      match hb : biOf x with
      | none => neverE
      | some b => ⟨.bi b A.ts, fun E X o => by
        simp only [Bool.and_eq_true]
                                                                                                    at h
        have hm := o.blt x (List.contains_iff_mem.mp h.2)
        have ok := okN_of h.1.1.2
        have hn : x ≠ "__name__" := fun z => by
          have := ok.nm
          rw [z] at this
          simp at this
        obtain ⟨s1, s2⟩ := star_one (env := X.env) h.1.2
        rcases bi_ok o hb with ⟨id, h1, h2⟩ | ⟨ty, h1, h2⟩
        · exact r_bi (pe_callB h2 (o.gl h.1.1.1) hm h1 (A.ok h.1.2 E X o) hn ok.db s1 (star_any s2))
        · exact r_bi (pe_callTy h2 (o.gl h.1.1.1) hm h1 (A.ok h.1.2 E X o) hn ok.db s1 (star_any s2))⟩
    else neverE
end
end Mp
end
section
/-! Mp: the compiler: isinstance, ranges as lists and tuples, sorted by keys. -/
namespace Mp
open PySem PySem.Spec
                                                                                                    PyProof.Rows L2

def tyOf (y : Str) : Option String := if y = "int" then some "int" else if y = "tuple" then some "tuple" else if y = "list" then some "list" else if y = "bool" then some "bool" else none
theorem ty_boot {y : Str} {t : String} (h : tyOf y = some t) : bootBuiltins y = some (.type t) := by
  unfold tyOf at h
  split at h
  · rename_i e; cases h; subst e; decide +kernel
  split at h
  · rename_i e; cases h; subst e; decide +kernel
  split at h
  · rename_i e; cases h; subst e; decide +kernel
  split at h
  · rename_i e; cases h; subst e; decide +kernel
  cases h
section
variable {gi : Gi} {W : Wp} {Γ : Gam} {K0 : Nat}
theorem OkN.ne {x : Str} (o : OkN x) : x ≠ "__name__" := fun z => by
  have := o.nm
  rw [z] at this
  simp at this
def eIsi (ct : Ct) (x y : Str) (p py pos : Pos) {a : Expr} (A : CE gi W Γ K0 ct a) : CE gi W Γ K0 ct (.Call (.Name x p) [a, .Name y py] [] pos) :=
  if h : (glbB ct.sc x && okN x && gi.blt.contains x && (glbB ct.sc y && okN y && gi.blt.contains y) && decide (x = "isinstance") && noStar [a]) = true then
    match ht : tyOf y with
    | none => neverE
    | some t => ⟨.isi A.t t, fun E X o => by
      simp only [Bool.and_eq_true,
                                                                                                    decide_eq_true_eq] at h
      obtain ⟨⟨⟨⟨⟨h1, h2⟩, h3⟩, ⟨h4, h5⟩, h6⟩, h7⟩, h8⟩ := h
      subst h7
      have s1 : starEach [a, .Name y py] X.env = (false, eval a X.env) :: starEach [.Name y py] X.env := by
        cases a <;> first | rfl | (simp [noStar] at h8)
      exact r_isi (t := y) (A.ok E X o) (pe_bltn (o.gl h4) (o.blt y (List.contains_iff_mem.mp h6)) (ty_boot ht) rfl (okN_of h5).ne (okN_of h5).db) (o.gl h1) (o.blt _ (List.contains_iff_mem.mp h3)) (by decide +kernel) (okN_of h2).ne (okN_of h2).db s1 rfl rfl⟩
  else neverE
end
end Mp
end
section
/-! Mp: the compiler: sorted by a def's keys. -/
namespace Mp
open PySem PySem.Spec
                                                                                                    PyProof.Rows L2

section
variable {gi : Gi} {W : Wp} {Γ : Gam} {K0 : Nat}
theorem Ok.in2 {ct : Ct} {X : Cx} (o : Ok gi W Γ K0 ct X) (h : 2 ≤ ct.d) : RoomG (K0 + (ct.d - 2)) X.A.in1.in1 := by
  have r := o.room
  have e : K0 + ct.d = K0 + (ct.d - 2) + 1 + 1 := by omega
  rw [e] at r
  exact r.in1.in1
def eSrtk (ct : Ct) (sx x : Str) (p p2 kp pos : Pos) (nm : Option Str) {a : Expr} (A : CE gi W Γ K0 ct a) : CE gi W Γ K0 ct (.Call (.Name sx p) [a] [⟨nm, .Name x p2, kp⟩] pos) :=
  if h : (glbB ct.sc sx && gi.blt.contains sx && decide (sx = "sorted") && decide (nm = some "key") && glbB ct.sc x && okN x && noStar [a] && decide (2 ≤ ct.d)) = true then
    match hd : patsOf x gi.defs with
    | none => neverE
    | some pats => if hp : patAt 1 [] pats = some [] then ⟨.srtk x A.t, fun E X o => by
        simp only [Bool.and_eq_true,
                                                                                                    decide_eq_true_eq] at h
        obtain ⟨⟨⟨⟨⟨⟨⟨h1, h2⟩, h3⟩, h4⟩, h5⟩, h6⟩, h7⟩, h8⟩ :=
                                                                                                    h
        subst h4
        have D := (o.defs _ (pats_mem hd)).up (Nat.le_add_right K0 (ct.d - 2))
        have hu : X.A.in1.in1.units + 64 < cLine := by
          have e : X.A.in1.in1.units = X.A.units + 1 + 1 := rfl
          have := o.units
          omega
        exact r_srtk h3 D (o.in2 h8) hu (o.gl h1) (o.blt _ (List.contains_iff_mem.mp h2)) (o.gl h5) (pat_mem hp) (okN_of h6).db (A.ok E X o) h7⟩ else neverE
  else neverE
end
end Mp
end
section
/-! Mp: the compiler: targets, iterators. -/
namespace Mp
open PySem PySem.Spec
                                                                                                    PyProof.Rows L2

section
variable {gi : Gi} {W : Wp} {Γ : Gam} {K0 : Nat}
/-- an iterator: a value -/
def iVal (ct : Ct) (tg : Expr) {a : Expr} (A : CE gi W Γ K0 ct a) : CI gi W Γ K0 ct tg a := ⟨.val, [A.t], fun E X o => x_val (A.ok E X o)⟩
/-- range -/
def iRng (ct : Ct) (tg : Expr) (x : Str) (p pos : Pos) : ∀ {es : List Expr}, CAs gi W Γ K0 ct es → Option (CI gi W Γ K0 ct tg (.Call (.Name x p) es [] pos))
  | [a], A => if h : (glbB ct.sc x && gi.blt.contains x && decide (x = "range") && noStar [a]) = true then
      match hA : A.ts with
      | [t] => some ⟨.rng, [t], fun E X o => by
        simp only [Bool.and_eq_true,
                                                                                                    decide_eq_true_eq] at h
        obtain ⟨⟨⟨h1, h2⟩, rfl⟩, h4⟩ := h
        have k := A.ok h4 E X o
        rw [hA] at k
        exact x_rng1 (o.gl h1) (o.blt _ (List.contains_iff_mem.mp h2)) k (star_one (env := X.env) h4).1⟩
      | _ => none
    else none
  | [a, b], A => if h : (glbB ct.sc x && gi.blt.contains x && decide (x = "range") && noStar [a, b]) = true then
      match hA : A.ts with
      | [t, u] => some ⟨.rng, [t, u], fun E X o => by
        simp only [Bool.and_eq_true,
                                                                                                    decide_eq_true_eq] at h
        obtain ⟨⟨⟨h1, h2⟩, rfl⟩, h4⟩ := h
        have k := A.ok h4 E X o
        rw [hA] at k
        obtain ⟨s1, s2⟩ := star_one (env := X.env) h4
        have s3 := (star_one (env := X.env) s2).1
        exact x_rng2 (o.gl h1) (o.blt _ (List.contains_iff_mem.mp h2)) k (by rw [s1, s3]; rfl) s3⟩
      | _ => none
    else none
  | _, _ => none
/-- enumerate -/
def iEnm (ct : Ct) (elts : List Expr) (kk : Nat) (tpos : Pos) (x : Str) (p pos : Pos) : ∀ {es : List Expr}, CAs gi W Γ K0 ct es → Option (CI gi W Γ K0 ct (.Tuple elts kk tpos) (.Call (.Name x p) es [] pos))
  | [a], A => if h : (glbB ct.sc x && gi.blt.contains x && decide (x = "enumerate") && noStar [a]) = true then
      match hA : A.ts with
      | [t] => some ⟨.enm, [t], fun E X o => by
        simp only [Bool.and_eq_true,
                                                                                                    decide_eq_true_eq] at h
        obtain ⟨⟨⟨h1, h2⟩, rfl⟩, h4⟩ := h
        have k := A.ok h4 E X o
        rw [hA] at k
        exact x_enm (o.gl h1) (o.blt _ (List.contains_iff_mem.mp h2)) k (star_one (env := X.env) h4).1⟩
      | _ => none
    else none
  | _, _ => none
end
end Mp
end
section
/-! Mp: the compiler: targets. -/
namespace Mp
open PySem PySem.Spec
                                                                                                    PyProof.Rows L2

section
variable {gi : Gi} {W : Wp} {Γ : Gam} {K0 : Nat}
theorem store_fn {ct : Ct} {X : Cx} (o : Ok gi W Γ K0 ct X) {x : Str} (h : (ct.fn || decide (ct.sc.names.lookup x = some .local)) = true) : X.fn x = true ∨ X.env.scope.names.lookup x = some .local := by
  rcases (Bool.or_eq_true ..).mp h with h | h
  · exact .inl (o.fn h x)
  · rw [o.sc]
    exact .inr (of_decide_eq_true h)
def gName' (ct : Ct) (x : Str) (pos : Pos) : Option (CG gi W Γ K0 ct (.Name x pos)) :=
  match hs : slotOf x ct.N with
  | none => none
  | some i => if h : (locB ct.sc x && (ct.fn || decide (ct.sc.names.lookup x = some .local))) = true then
      some ⟨.nm i, fun X o => g_nm o.nd (by rw [o.N]; exact slot_at hs) (by rw [o.sc]; exact loc_of ((Bool.and_eq_true ..).mp h).1) (store_fn o ((Bool.and_eq_true ..).mp h).2)⟩
    else none
/-- no star among targets -/
theorem star_asg {e : Expr} {es : List Expr} {env : PySem.Env} (h : noStar (e :: es) = true) : assignEach (e :: es) env = (false, assign e env) :: assignEach es env ∧ noStar es = true := by
  cases e <;> first | exact ⟨rfl, h⟩ | (simp [noStar] at h)
theorem asg_len {env : PySem.Env} : ∀ {es : List Expr}, noStar es = true → (assignEach es env).length = es.length ∧ (assignEach es env).findIdx? (·.1) = none
  | [], _ => ⟨rfl, rfl⟩
  | e :: es, h => by
    obtain ⟨h1, h2⟩ := star_asg (env := env) h
    obtain ⟨k1, k2⟩ := asg_len (env := env) h2
    rw [h1]
    exact ⟨by rw [List.length_cons, List.length_cons, k1], by rw [List.findIdx?_cons, k2]; rfl⟩
structure CGs (gi : Gi) (W : Wp) (Γ : Gam) (K0 : Nat) (ct : Ct) (es : List Expr) where
  gs : List G
  len : gs.length = es.length
  ok : noStar es = true → ∀ X, Ok gi W Γ K0 ct X → PGs X es (tGs W gs)
def gAll (ct : Ct) (f : ∀ e, Option (CG gi W Γ K0 ct e)) : ∀ es, Option (CGs gi W Γ K0 ct es)
  | [] => some ⟨[], rfl, fun _ _ _ => gs_nil⟩
  | e :: es => match f e, gAll ct f es with
    | some a, some r => some ⟨a.g :: r.gs, by rw [List.length_cons, List.length_cons, r.len], fun h X o => gs_cons (a.ok X o) (r.ok (star_asg (env := X.env) h).2 X o) (by rw [(star_asg (env := X.env) h).1]; rfl)⟩
    | _, _ => none
def gTup (ct : Ct) {es : List Expr} (k : Nat) (pos : Pos) (A : CGs gi W Γ K0 ct es) : Option (CG gi W Γ K0 ct (.Tuple es k pos)) :=
  if h : noStar es = true then some ⟨.tp A.gs, fun X o => g_tp o.calm (A.ok h X o) (by rw [(asg_len h).1, A.len]) (asg_len h).2⟩ else none
end
end Mp
end
section
/-! Mp: the compiler: tests. -/
namespace Mp
open PySem PySem.Spec
                                                                                                    PyProof.Rows L2

section
variable {gi : Gi} {W : Wp} {Γ : Gam} {K0 : Nat}
/-- what is tested by its value -/
def plT : T → Bool
  | .var _ => true
  | .call .. => true
  | .callv .. => true
  | .isi .. => true
  | .aal .. => true
  | .ix .. => true
  | _ => false
theorem tst_pl {t : T} (h : plT t = true) : ∀ ρ, tst Γ ρ t = bnd (ev Γ ρ t) fun x => ofO (truthD x) := by
  intro ρ
  cases t <;> simp only [plT] at h <;> first | (cases h; done) | (simp [tst, ev, truthD, bnd_id])
def isVal : Expr → Bool
  | .Name .. => true
  | .Call .. => true
  | .Subscript .. => true
  | _ => false
theorem isTrue_val {a : Expr} {env : PySem.Env} (h : isVal a = true) : ∀ whole, isTrue a env whole = (do let v ← whole; standAt a.pos; holding [v] (truthy v)) := fun whole => by
  cases a <;> simp only [isVal] at h <;> first | (cases h; done) | rfl
def tVal (ct : Ct) {a : Expr} (A : CE gi W Γ K0 ct a) : CT gi W Γ K0 ct a :=
  if h : (isVal a && plT A.t) = true then ⟨A.t, fun E X o => rt_truth (tst_pl ((Bool.and_eq_true ..).mp h).2) (A.ok E X o) (isTrue_val ((Bool.and_eq_true ..).mp h).1)⟩ else neverT
def tBool (ct : Ct) {e : Expr} (A : CW gi W Γ K0 ct e) : CT gi W Γ K0 ct e := ⟨A.t, fun E X o => (A.ok E X o).pt⟩
end
end Mp
end
section
/-! Mp: the compiler: statements. -/
namespace Mp
open PySem PySem.Spec
                                                                                                    PyProof.Rows L2

section
variable (gi : Gi) (W : Wp) (Γ : Gam) (K0 : Nat)
structure CS (ct : Ct) (s : Stmt) where
  c : C
  ok : ∀ E X, Ok gi W Γ K0 ct X → PS X s (tS W Γ c E)
structure CSs (ct : Ct) (ss : List Stmt) where
  cs : List C
  ok : ∀ E X, Ok gi W Γ K0 ct X → PSs X ss (tSs W Γ cs E)
variable {gi W Γ K0}
def neverS {ct : Ct} {s : Stmt} : CS gi W Γ K0 ct s := ⟨.never, fun _ _ _ => s_never⟩
def sAll (ct : Ct) (f : ∀ s, CS gi W Γ K0 ct s) : ∀ ss, CSs gi W Γ K0 ct ss
  | [] => ⟨[], fun _ _ _ => ss_nil⟩
  | s :: r => ⟨(f s).c :: (sAll ct f r).cs, fun E X o => ss_cons ((f s).ok E X o) ((sAll ct f r).ok E X o)⟩
def sRet (ct : Ct) {e : Expr} (pos : Pos) (A : CE gi W Γ K0 ct e) : CS gi W Γ K0 ct (.Return (some e) pos) := ⟨.ret A.t, fun E X o => s_ret (A.ok E X o)⟩
def sExp (ct : Ct) {e : Expr} (pos : Pos) (A : CE gi W Γ K0 ct e) : CS gi W Γ K0 ct (.Expr e pos) := if h : noComp e = true then ⟨.exp A.t, fun E X o => s_exp (A.ok E X o) (sw_none h)⟩ else neverS
def sIf (ct : Ct) {c : Expr} {a b : List Stmt} (pos : Pos) (T : CT gi W Γ K0 ct c) (A : CSs gi W Γ K0 ct a) (B : CSs gi W Γ K0 ct b) : CS gi W Γ K0 ct (.If c a b pos) := ⟨.iff T.t A.cs B.cs, fun E X o => s_if (T.ok E X o) (A.ok E X o) (B.ok E X o)⟩
def sSet (ct : Ct) (x : Str) (p pos : Pos) {e : Expr} (A : CE gi W Γ K0 ct e) : CS gi W Γ K0 ct (.Assign [.Name x p] e pos) :=
  match hs : slotOf x ct.N with
  | none => neverS
  | some i => if h : (noComp e && locB ct.sc x && (ct.fn || decide (ct.sc.names.lookup x = some .local))) = true then
      ⟨.asg (.nm i) A.t, fun E X o => by
        have h' := (Bool.and_eq_true ..).mp h
        have h2 := (Bool.and_eq_true ..).mp h'.1
        exact s_set o.nd (by rw [o.N]; exact slot_at hs) (by rw [o.sc]; exact loc_of h2.2) (A.ok E X o) (sw_none h2.1) (store_fn o h'.2)⟩
    else neverS
end
end Mp
end
section
/-! Mp: the compiler: the contexts of comprehensions. -/
namespace Mp
open PySem PySem.Spec
                                                                                                    PyProof.Rows L2

def ctB (ct : Ct) (cs : Scope) : Ct := { ct with sc := relS cs ct.sc, fn := false }
/-- within a generator expression -/
def ctG (ct : Ct) (gs : Scope) : Ct := { ct with sc := gs, code := false, fn := false, d := ct.d - 3 }
section
variable {gi : Gi} {W : Wp} {Γ : Gam} {K0 : Nat}
theorem blk_ok {ct : Ct} {X : Cx} (o : Ok gi W Γ K0 ct X) (cs : Scope) (s : Shared) (H : Hp) (C : Addr) (cl : List (Str × Addr)) (fp : List Addr) : Ok gi W Γ K0 (ctB ct cs) (X.blk s H cs (compEnvC cs cl C X.env) fp) := by
  refine ⟨o.N, o.nd, ?_, o.calm, fun h => (by cases h), o.room, PassesOwn.never, o.defs, o.nums, o.blt, o.lam, o.code⟩
  show relS cs X.env.scope = relS cs ct.sc
  rw [o.sc]
theorem gen_ok {ct : Ct} {X : Cx} (o : Ok gi W Γ K0 ct X) (hd : 3 ≤ ct.d) (gs : Scope) (s : Shared) (H : Hp) (C : Addr) (code : Value) (fp : List Addr) : Ok gi W Γ K0 (ctG ct gs) (gCx X X.A.in1.in1 s H gs C code fp) := by
  have r := o.room
  have e : K0 + ct.d = K0 + (ct.d - 3) + 1 + 1 + 1 := by omega
  rw [e] at r
  exact ⟨o.N, o.nd, rfl, rfl, fun h => (by cases h), r.in1.in1.deeper _, PassesOwn.never, o.defs, o.nums, o.blt, o.lam, fun h => (by cases h)⟩
end
end Mp
end
section
/-! Mp: the compiler: comprehensions. -/
namespace Mp
open PySem PySem.Spec
                                                                                                    PyProof.Rows L2

def ownOf (N : List Str) (g : G) : List (Str × Nat) := (slotsG g).map fun i => ((N[i]?).getD "", i)
theorem ownOf_ix {N : List Str} {g : G} : (ownOf N g).map (·.2) = slotsG g := by
  unfold ownOf
  rw [List.map_map]
  exact (List.map_congr_left fun _ _ => rfl).trans (List.map_id' _)
section
variable {gi : Gi} {W : Wp} {Γ : Gam} {K0 : Nat}
/-- the tests of a clause -/
structure CIf (gi : Gi) (W : Wp) (Γ : Gam) (K0 : Nat) (ct : Ct) (es : List Expr) where
  t : Option T
  ok : ∀ E X, Ok gi W Γ K0 ct X → PTs X es (tTo W Γ t E)
def eIfs (ct : Ct) (f : ∀ e, CT gi W Γ K0 ct e) : ∀ es, Option (CIf gi W Γ K0 ct es)
  | [] => some ⟨none, fun _ _ _ => ts_nil⟩
  | [e] => some ⟨some (f e).t, fun E X o => ts_one ((f e).ok E X o)⟩
  | _ => none
def eLc (ct : Ct) {elt tg iter : Expr} {ifs : List Expr} (cs : Scope) (pos : Pos) (I : CI gi W Γ K0 ct tg iter) (Gt : CG gi W Γ K0 (ctB ct cs) tg) (F : CIf gi W Γ K0 (ctB ct cs) ifs) (A : CE gi W Γ K0 (ctB ct cs) elt) : CE gi W Γ K0 ct (.ListComp elt [⟨tg, iter, ifs, 0⟩] cs pos) :=
  if h : (noSet iter && blkC ct.N ct.sc cs (ownOf ct.N Gt.g)) = true then
    ⟨.lc Gt.g I.k I.ts F.t A.t, fun E X o => by
      obtain ⟨h1, h2⟩ := (Bool.and_eq_true ..).mp h
      have bo := blkOk_by h2
      rw [← o.N, ← o.sc] at bo
      exact r_lc o.calm o.nd (I.ok E X o) bo ownOf_ix (fun s H C cl fp => Gt.ok _ (blk_ok o cs s H C cl fp)) (fun s H C cl fp => F.ok _ _ (blk_ok o cs s H C cl fp)) (fun s H C cl fp => A.ok _ _ (blk_ok o cs s H C cl fp)) (fs_pure h1)⟩
  else neverE
end
end Mp
end
section
/-! Mp: the compiler: dict comprehensions, loops, own lists. -/
namespace Mp
open PySem PySem.Spec
                                                                                                    PyProof.Rows L2

section
variable {gi : Gi} {W : Wp} {Γ : Gam} {K0 : Nat}
def eDc (ct : Ct) {kx vx tg iter : Expr} (cs : Scope) (pos : Pos) (I : CI gi W Γ K0 ct tg iter) (Gt : CG gi W Γ K0 (ctB ct cs) tg) (A : CE gi W Γ K0 (ctB ct cs) kx) (B : CE gi W Γ K0 (ctB ct cs) vx) : CE gi W Γ K0 ct (.DictComp kx vx [⟨tg, iter, [], 0⟩] cs pos) :=
  if h : (noSet iter && blkC ct.N ct.sc cs (ownOf ct.N Gt.g)) = true then
    ⟨.dc Gt.g I.k I.ts A.t B.t, fun E X o => by
      obtain ⟨h1, h2⟩ := (Bool.and_eq_true ..).mp h
      have bo := blkOk_by h2
      rw [← o.N, ← o.sc] at bo
      exact r_dc o.calm o.nd (I.ok E X o) bo ownOf_ix (fun s H C cl fp => Gt.ok _ (blk_ok o cs s H C cl fp)) (fun s H C cl fp => A.ok _ _ (blk_ok o cs s H C cl fp)) (fun s H C cl fp => B.ok _ _ (blk_ok o cs s H C cl fp)) (fs_pure h1)⟩
  else neverE
def sFor (ct : Ct) {tg iter : Expr} {body : List Stmt} (pos : Pos) (I : CI gi W Γ K0 ct tg iter) (Gt : CG gi W Γ K0 ct tg) (B : CSs gi W Γ K0 ct body) : CS gi W Γ K0 ct (.For tg iter body [] pos) :=
  if h : noSet iter = true then ⟨.for_ Gt.g I.k I.ts B.cs, fun E X o => s_for o.own o.calm (I.ok E X o) (Gt.ok X o) (B.ok E X o) (fs_pure h)⟩ else neverS
def sMeth (ct : Ct) (x m : Str) (p apos cpos pos : Pos) {e : Expr} (A : CE gi W Γ K0 ct e) : CS gi W Γ K0 ct (.Expr (.Call (.Attribute (.Name x p) m apos) [e] [] cpos) pos) :=
  match hs : slotOf x ct.N with
  | none => neverS
  | some i => if h : (visB ct.sc x && okN x && noStar [e] && (apos.endLine == cpos.line)) = true then
      if hm : m = "append" then ⟨.app i A.t, fun E X o => by
        simp only [Bool.and_eq_true]
                                                                                                    at h
        exact s_app hm (by rw [o.N]; exact slot_at hs) (by rw [o.sc]; exact vis_of h.1.1.1) (okN_of h.1.1.2).db (okN_of h.1.1.2).cd (A.ok E X o) (sw_none rfl) rfl h.2 h.1.2⟩
      else if hm : m = "remove" then ⟨.rem i A.t, fun E X o => by
        simp only [Bool.and_eq_true]
                                                                                                    at h
        exact s_rem hm (by have := o.units; omega) (by rw [o.N]; exact slot_at hs) (by rw [o.sc]; exact vis_of h.1.1.1) (okN_of h.1.1.2).db (okN_of h.1.1.2).cd (A.ok E X o) (sw_none rfl) rfl h.2 h.1.2⟩
      else neverS
    else neverS
end
end Mp
end
section
/-! Mp: sets whose members are tuples of ints and of such tuples. -/
namespace Mp
open PySem PySem.Spec
                                                                                                    PyProof.Rows L2

mutual
def numK : NestedKey → Bool
  | .num _ => true
  | .tup ks => numKs ks
  | .none => false
  | .text _ => false
def numKs : List NestedKey → Bool
  | [] => true
  | k :: ks => numK k && numKs ks
end
/-- a set's member: tuples of ints, and of such tuples -/
structure Mem (h : Heap) (k : NestedKey) (a : Addr) : Prop where
  is : NestedIs h k (.ref a)
  dep : k.depth ≤ 8
  num : numK k = true
theorem Mem.keep {h g : Heap} {k : NestedKey} {a : Addr} (m : Mem h k a) (kp : ∀ b o, h.get? b = some o → g.get? b = some o) : Mem g k a :=
  ⟨NestedIs.at (fun b o vs n e _ => kp b o e) k _ m.is, m.dep, m.num⟩
theorem Mem.same {h g : Heap} {k : NestedKey} {a S : Addr} {o : Obj} {es : Array (Int × Value)} {ep : Nat} {t : SetTable} (m : Mem h k a) (ho : h.get? S = some o) (hd : o.data = .set es ep t) (sb : Heap.SameBut S h g) : Mem g k a :=
  ⟨NestedIs.at (fun b p vs n e q => (sb.2 b fun z => by
    subst z
    rw [ho] at e
    cases e
    rw [hd] at q
    cases q).trans e) k _ m.is, m.dep, m.num⟩
section
variable {P : Program} {w : World}
/-- what is asked here is answered b, and nothing else comes of it -/
def Says (P : Program) (w : World) (m : Sem Bool) (b : Bool) (s : Shared) : Prop := ∀ (A : Around) (E : Value → Shared → Prop) (Q : Bool → Shared → Prop), Q b s → wpAny (model P w) A m Q E s
theorem says_tup {n m : Nat} {a : Addr} {o : Obj} {vs : Array Value} {s : Shared} (ho : s.heap.get? a = some o) (hc : o.cls = .type "tuple") (hd : o.data = .seq vs m) (hq : ∀ v ∈ vs.toList, Says P w (ofAClassStatement n v) false s) : Says P w (ofAClassStatement (n + 1) (.ref a)) false s := fun A E Q h => by
  have hT : s.TypeIs
                                                                                                    (.ref a) "tuple" := ⟨o, ho, hc⟩
  unfold ofAClassStatement
  refine wpAny_bind
                                                                                                    (wpAny_typeOf hT ?_)
  dsimp only
  have e : (("tuple" : String) == "tuple") = true :=
                                                                                                    by decide
  simp only [e, if_true, Bool.not_true,
                                                                                                    Bool.false_eq_true, if_false]
  try refine wpAny_bind
                                                                                                    (wpAny_pure ?_)
  try simp only [Bool.not_true,
                                                                                                    Bool.false_eq_true, if_false]
  refine wpAny_bind
                                                                                                    (wpAny_seqItems ho hd ?_)
  refine wpAny_bind ?_
  rw [← Array.forIn_toList]
  refine wpAny_forIn_list _ (fun r x t => x.1 = none ∧ t = s ∧ ∀ v ∈ r, v ∈ vs.toList) _ ?_ ?_ _ _ ⟨rfl, rfl, fun _ z => z⟩
  · rintro v r x t ⟨hx, rfl, al⟩
    refine wpAny_bind (hq v (al v List.mem_cons_self) _ _ _ ?_)
    simp only [Bool.false_eq_true,
                                                                                                    if_false]
    exact wpAny_pure ⟨rfl, rfl, fun u z => al u (List.mem_cons_of_mem _ z)⟩
  · rintro ⟨x, y⟩ t ⟨hx, rfl, _⟩
    obtain rfl : x = none := hx
    exact wpAny_pure h
theorem hash_tup {n m : Nat} {a : Addr} {o : Obj} {vs : Array Value} {s : Shared} (ho : s.heap.get? a = some o) (hc : o.cls = .type "tuple") (hd : o.data = .seq vs m) (hq : ∀ v ∈ vs.toList, Says P w (hashByValue n v) true s) : Says P w (hashByValue (n + 1) (.ref a)) true s := fun A E Q h => by
  have hT : s.TypeIs
                                                                                                    (.ref a) "tuple" := ⟨o, ho, hc⟩
  unfold hashByValue
  refine wpAny_bind
                                                                                                    (wpAny_specialOf hT F.slot_tuple_hash.lookup ?_)
  show wpAny _ _ (seqItems? (.ref a) >>= _) _ _ s
  refine wpAny_bind
                                                                                                    (wpAny_seqItems ho hd ?_)
  refine wpAny_bind ?_
  show wpAny _ _
                                                                                                    (forIn vs _ _) _ _ s
  rw [← Array.forIn_toList]
  refine wpAny_forIn_list _ (fun r x t => x.1 = none ∧ t = s ∧ ∀ v ∈ r, v ∈ vs.toList) _ ?_ ?_ _ _ ⟨rfl, rfl, fun _ z => z⟩
  · rintro v r x t ⟨hx, rfl, al⟩
    refine wpAny_bind (hq v (al v List.mem_cons_self) _ _ _ ?_)
    simp only [Bool.not_true,
                                                                                                    Bool.false_eq_true, if_false]
    exact wpAny_pure ⟨rfl, rfl, fun u z => al u (List.mem_cons_of_mem _ z)⟩
  · rintro ⟨x, y⟩ t ⟨hx, rfl, _⟩
    obtain rfl : x = none := hx
    exact wpAny_pure h
theorem num_says {i : Int} {v : Value} {n : Nat} {h : Heap} {s : Shared} (x : NestedIs h (.num i) v) : Says P w (ofAClassStatement n v) false s ∧ Says P w (hashByValue n v) true s := by
  cases x with
  | bool e => exact ⟨fun _ _ _ q => by cases n <;> exact wpAny_pure q, fun _ _ _ q => by cases n <;> exact wpAny_pure q⟩
  | int t => exact ⟨fun _ _ _ q => by cases n <;> exact wpAny_pure q, fun _ _ _ q => by cases n <;> exact wpAny_pure q⟩
mutual
theorem key_says : ∀ (k : NestedKey) (v : Value) (n : Nat) (s : Shared), NestedIs s.heap k v → numK k = true → k.depth ≤ n → Says P w (ofAClassStatement n v) false s ∧ Says P w (hashByValue n v) true s
  | .none, _, _, _, _, h, _ => by simp [numK] at h
  | .text _, _, _, _, _, h, _ => by simp [numK] at h
  | .num i, _, n, s, x, _, _ => num_says x
  | .tup ks, _, n, s, x, h, hn => by
    cases x with
    | tup hg hc hd hk =>
      simp only [NestedKey.depth]
                                                                                                    at hn
      cases n with
      | zero => omega
      | succ n =>
        have r := fun v hv => keys_says ks _ n s hk (by simpa only [numK] using h) (by omega) v hv
        exact ⟨says_tup hg hc hd fun v hv => (r v hv).1, hash_tup hg hc hd fun v hv => (r v hv).2⟩
theorem keys_says : ∀ (ks : List NestedKey) (vs : List Value) (n : Nat) (s : Shared), NestedAll s.heap ks vs → numKs ks = true → NestedKey.depthAll ks ≤ n → ∀ v ∈ vs, Says P w (ofAClassStatement n v) false s ∧ Says P w (hashByValue n v) true s
  | [], _, n, s, x, _, _, v, hv => by
    cases x
    cases hv
  | k :: ks, _, n, s, x, h, hn, v, hv => by
    cases x with
    | cons x1 x2 =>
      simp only
                                                                                                    [NestedKey.depthAll] at hn
      simp only [numKs, Bool.and_eq_true] at h
      rcases List.mem_cons.mp hv
                                                                                                    with e | hv
      · rw [e]
        exact key_says k _ n s x1 h.1 (by omega)
      · exact keys_says ks _ n s x2 h.2 (by omega) v hv
end
variable {A : Around} {E : Value
                                                                                                    → Shared → Prop} {s : Shared}
/-- nothing is seen of a search -/
theorem seen_no {k : NestedKey} {b : Addr} {Q : Bool → Shared → Prop} (hk : Mem s.heap k b) {ys : List Value} (hy : ∀ y ∈ ys, ∃ j c, y = Value.ref c ∧ Mem s.heap j c) (h : Q false s) : wpAny (model P w) A (searchCouldBeSeen (.ref b) ys) Q E s := by
  have q1 := fun (k : NestedKey) (b : Addr) (m : Mem s.heap k b) => quiet_key (prog := P) (w := w) k (.ref b) 8 s m.is m.dep
  have q2 := fun (k : NestedKey) (b : Addr) (m : Mem s.heap k b) => (key_says (P := P) (w := w) k (.ref b) 8 s m.is m.num m.dep).1
  unfold searchCouldBeSeen
  refine wpAny_bind ?_
  refine wpAny_forIn_list _ (fun r x t => x.1 = none ∧ t = s ∧ ∀ y ∈ r, y ∈ ys) _ ?_ ?_ _ _ ⟨rfl, rfl, fun _ z => z⟩
  · rintro v r x t ⟨hx, rfl, al⟩
    obtain ⟨j, c, rfl, hc⟩ := hy v (al v List.mem_cons_self)
    have al' : ∀ u ∈ r, u ∈ ys := fun u z => al u (List.mem_cons_of_mem _ z)
    dsimp only
    by_cases hv :
                                                                                                    (b == c || (carriedByValue (.ref b) && carriedByValue (.ref c))) = true
    · exact wp_if_pos hv (wpAny_pure ⟨rfl, rfl, al'⟩)
    · refine wp_if_neg hv (wpAny_bind (q1 k b hk _ _ _ ?_))
      simp only [Bool.not_true,
                                                                                                    Bool.false_eq_true, if_false]
      refine wpAny_bind (q1 j c hc _ _ _ ?_)
      simp only [Bool.not_true,
                                                                                                    Bool.false_eq_true, if_false]
      refine wpAny_bind (q2 k b hk _ _ _ ?_)
      simp only [Bool.false_eq_true,
                                                                                                    if_false]
      refine wpAny_bind (q2 j c hc _ _ _ ?_)
      simp only [Bool.false_eq_true,
                                                                                                    if_false]
      exact wpAny_pure ⟨rfl, rfl, al'⟩
  · rintro ⟨x, y⟩ t ⟨hx, rfl, _⟩
    obtain rfl : x = none := hx
    exact wpAny_pure h
end
end Mp
end
section
/-! Mp: a member is looked for in a set. -/
namespace Mp
open PySem PySem.Spec
                                                                                                    PyProof.Rows L2

abbrev Rw := List (Addr × NestedKey)
def rws (w : PySem.World) (L : Rw) : List (Int × Value) := L.map fun p => (p.2.hash w, Value.ref p.1)
def hss (w : PySem.World) (L : Rw) : List Int := L.map fun p => p.2.hash w
theorem rws_len {w : PySem.World} {L : Rw} {es : Array (Int × Value)} (h : es.toList = rws w L) : es.size = L.length := by
  have z : es.toList.length = (rws w L).length := by rw [h]
  simpa [rws] using z
theorem rws_at {w : PySem.World} {L : Rw} {es : Array (Int × Value)} (h : es.toList = rws w L) {i : Nat} {p : Addr × NestedKey} (e : L[i]? = some p) : es[i]? = some (p.2.hash w, Value.ref p.1) := by
  rw [← Array.getElem?_toList, h, rws, List.getElem?_map, e]
  rfl
/-- the set at S has the members L -/
structure SetM (w : PySem.World) (h : Heap) (S : Addr) (L : Rw) (es : Array (Int × Value)) (ep : Nat) (t : SetTable) : Prop where
  ob : ∃ o, h.get? S = some o ∧ o.ExactSet ∧ o.data = .set es ep t
  rows : es.toList = rws w L
  tab : L2.TabOk t (hss w L)
  once : (L.map (·.2)).Nodup
  mem : ∀ p ∈ L, Mem h p.2 p.1
  plain : t.plain = true
  led : w.params.followText
                                                                                                    "set-order" = true ∨ t.led = true
  room : L.length
                                                                                                    * 5 < t.mask * 3
  few : L.length < 64
theorem nth_dm (m : Nat) : ∀ (n : Nat) (p : SetTable.Probe), p.dummy = none → (nth m p n).dummy = none
  | 0, _, h => h
  | n + 1, p, h => nth_dm m n (adv m p) (by
    unfold adv
    split <;> exact h)
theorem tab_fits {t : SetTable} {es : Array (Int × Value)} {n : Nat} (h1 : t.place.size = n) (h2 : es.size = n) (h3 : t.dummies = #[]) (h4 : n ≤ t.mask) : t.fits es.size = true := by
  unfold SetTable.fits
                                                                                                    SetTable.fill
  rw [h3, h1, h2]
  simp [h4]
section
variable {P : Program} {w : PySem.World} {A : Around} {E : Value → Shared → Prop} {s : Shared} {S : Addr} {L : Rw} {es : Array (Int × Value)} {ep : Nat} {t : SetTable}
theorem SetM.sz (R : SetM w s.heap S L es ep t) : t.place.size = L.length := by
  have z := R.tab.sz
  rwa [hss, List.length_map] at z
theorem SetM.fits (R : SetM w s.heap S L es ep t) : t.fits es.size = true := tab_fits R.sz (rws_len R.rows) R.tab.dm (by have := R.room; omega)
theorem SetM.gave (R : SetM w s.heap S L es ep t) : ¬ t.gaveWay = true := by
  unfold SetTable.gaveWay
  rw [mask_odd R.tab.mok]
  decide
/-- from the c-th step on -/
theorem find_from (R : SetM w s.heap S L es ep t) {x : Addr} {k : NestedKey} (hx : Mem s.heap k x) (hu : A.units + 8 < cLine) {K : Nat} (hKf : K < 10 * SetTable.turns t.mask) (hK : way t.mask (k.hash w) K ∉ t.place.toList)
    (hb : ∀ c, c < K → way t.mask (k.hash w) c ∈ t.place.toList) {Q : SetFound → Shared → Prop} (yes : k ∈ L.map (·.2) → Q (.there none) s) (no : k ∉ L.map (·.2) → Q (.free (way t.mask (k.hash w) K) false) s) :
    ∀ (f c : Nat) (stand : Option SetTable.Probe), stand.getD (t.probeStart (k.hash w)) = nth t.mask (runAt t.mask (SetTable.bits (k.hash w) % (t.mask + 1)) (SetTable.bits (k.hash w))) c → c ≤ K → K - c < f →
      (∀ (c' i : Nat) (p : Addr × NestedKey), c' < c → L[i]? = some p → t.place.toList[i]? = some (way t.mask (k.hash w) c') → p.2 ≠ k) → wpAny (model P w) A (setSearchFrom S (.ref x) (k.hash w) true f stand) Q E s
  | 0, c, stand, _, _, hf, _ => absurd hf
                                                                                                    (Nat.not_lt_zero _)
  | f + 1, c, stand, hst, hc, hf, past => by
    obtain ⟨o, ho, hex, hd⟩ :=
                                                                                                    R.ob
    generalize hr : runAt t.mask (SetTable.bits (k.hash w) % (t.mask + 1)) (SetTable.bits (k.hash w)) = st at hst
    have hw : ∀ n, way t.mask (k.hash w) n = (nth t.mask st n).j := fun n => by rw [← hr]
    have sh : ∀ n, nth t.mask (nth t.mask st c) n = nth t.mask st (c + n) := fun n => (nth_add t.mask c st n).symm
    have wy : ∀ n, (nth t.mask (nth t.mask st c) n).j = way t.mask (k.hash w) (c + n) := fun n => by rw [sh, hw]
    have hh : ∀ (i : Nat) (p : Addr × NestedKey), L[i]? = some p → (es[i]?.map (·.1)).getD 0 = p.2.hash w := fun i p e => by
      rw [rws_at R.rows e]
      rfl
    rw [setSearchFrom_succ]
    refine wpAny_bind
                                                                                                    (wpAny_setState_of ho hd R.fits ?_)
    dsimp only
    refine wp_if_neg R.gave ?_
    try refine wpAny_bind
                                                                                                    (wpAny_pure ?_)
    have dm : (nth t.mask st c).dummy = none := nth_dm _ _ _ (by rw [← hr]; rfl)
    rcases go_spec t R.tab.ris R.tab.dm (fun i => (es[i]?.map (·.1)).getD 0) (k.hash w) (10 * SetTable.turns t.mask) (K - c) (nth t.mask st c) dm (by omega) (fun n hn => by rw [wy]; exact hb _ (by omega)) (by rw [wy, show c + (K - c) = K from by omega]; exact hK) with ⟨n, i, hn, hi, he, hno, hp⟩ | ⟨hno, hp⟩
    · rw [wy] at hi
      have e1 : t.probe (fun i => (es[i]?.map (·.1)).getD 0) (k.hash w) (stand.getD (t.probeStart (k.hash w))) = some (.candidate (way t.mask (k.hash w) (c + n)) i (nth t.mask st (c + (n + 1)))) := by
        rw [hst, ← wy, ← sh]
        exact hp
      rw [e1]
      dsimp only
      have il : i < L.length := by
        have a1 : i < t.place.toList.length := (List.getElem?_eq_some_iff.mp hi).1
        rw [Array.length_toList, R.sz] at a1
        exact a1
      obtain ⟨p, lp⟩ : ∃ p, L[i]? = some p := ⟨L[i], List.getElem?_eq_getElem il⟩
      have pm : p ∈ L := List.mem_of_getElem? lp
      have live : t.slot (way t.mask (k.hash w) (c + n)) = .live i := slot_live R.tab.ris hi
      have rest : wpAny (model P w) A (searchRest S (.ref x) (k.hash w) true f es t (way t.mask (k.hash w) (c + n)) i (nth t.mask st (c + (n + 1)))) Q E s := by
        have mp := R.mem p pm
        unfold searchRest
        rw [rws_at R.rows lp]
        dsimp only
        refine wpAny_bind (wpAny_holding ((eqAt_key p.2 k A s _ _ mp.is hx.is (by have := mp.dep; omega)) _ _ _ _ ?_))
        refine wpAny_bind
                                                                                                    (wpAny_setState_of ho hd R.fits ?_)
        dsimp only
        by_cases same : p.2 = k
        · have bk : NestedKey.beq p.2 k = true := by rw [same]; exact NestedKey.beq_self k
          exact wp_if_pos (by simp [bk]) (wpAny_pure (yes (List.mem_map.mpr ⟨p, pm, same⟩)))
        · have bk : NestedKey.beq p.2 k = false := by
            cases b : NestedKey.beq p.2 k with
            | false => rfl
            | true => exact absurd (NestedKey.eq_of_beq _ _ b) same
          refine wp_if_neg (by simp [bk]) ?_
          try refine wpAny_bind
                                                                                                    (wpAny_pure ?_)
          rw [sameMem]
          simp only [if_true, live, rws_at R.rows lp]
          refine wpAny_bind
                                                                                                    (wpAny_isSame_ref_self (wpAny_bind (wpAny_pure ?_)))
          simp only [if_true]
          refine wp_if_neg (by simp [bk]) ?_
          refine find_from R hx hu hKf hK hb yes no f (c + (n + 1)) _ (by rw [hr]; rfl) (by omega) (by omega) fun c' j q hc' lq hj => ?_
          rcases Nat.lt_or_ge c' c with z | z
          · exact past c' j q z lq hj
          · rcases Nat.lt_or_ge c' (c + n) with y | y
            · have z1 := hno (c' - c) j (by omega) (by rw [wy, show c + (c' - c) = c' from by omega]; exact hj)
              exact fun e => z1 (by rw [hh j q lq, e])
            · have ec : c' = c + n := by omega
              subst ec
              have l2 := slot_live R.tab.ris hj
              rw [live] at l2
              injection l2 with l2
              subst l2
              rw [lp] at lq
              cases lq
              exact same
      by_cases hl : t.led = true
      · refine wp_if_neg
                                                                                                    (by simp [hl]) ?_
        try refine wpAny_bind
                                                                                                    (wpAny_pure ?_)
        exact rest
      · refine wp_if_pos
                                                                                                    (by simp [hl]) ?_
        refine wpAny_bind (seen_no hx (fun y hy => ?_) ?_)
        · obtain ⟨e, ye, rfl⟩ := List.mem_map.mp hy
          have z : e ∈ es.toList := by
            have : e ∈ es ∧ e.1 = k.hash w := by simpa using ye
            simpa using this.1
          rw [R.rows] at z
          obtain ⟨p2, hp2, rfl⟩ := List.mem_map.mp z
          exact ⟨p2.2, p2.1, rfl, R.mem p2 hp2⟩
        · refine wp_if_neg
                                                                                                    (by decide) ?_
          try refine wpAny_bind
                                                                                                    (wpAny_pure ?_)
          exact rest
    · have e2 : t.probe (fun i => (es[i]?.map (·.1)).getD 0) (k.hash w) (stand.getD (t.probeStart (k.hash w))) = some (.empty (way t.mask (k.hash w) K) none) := by
        have z : (nth t.mask (nth t.mask st c) (K - c)).j = way t.mask (k.hash w) K := by rw [wy, show c + (K - c) = K from by omega]
        rw [hst, ← z]
        exact hp
      rw [e2]
      dsimp only
      refine wpAny_pure (no fun hm => ?_)
      obtain ⟨p, pm, ek⟩ := List.mem_map.mp hm
      obtain ⟨i, hi, ei⟩ := List.getElem_of_mem pm
      have lp : L[i]? = some p := by rw [List.getElem?_eq_getElem hi, ei]
      have ip : i < t.place.toList.length := by rw [Array.length_toList, R.sz]; exact hi
      have hh' : (hss w L)[i]? = some (k.hash w) := by
        rw [hss, List.getElem?_map, lp, ← ek]
        rfl
      obtain ⟨c', hc', ej⟩ := R.tab.before hK hh' (List.getElem?_eq_getElem ip)
      have hj : t.place.toList[i]? = some (way t.mask (k.hash w) c') := by rw [ej]; exact List.getElem?_eq_getElem ip
      rcases Nat.lt_or_ge c' c with z | z
      · exact past c' i p z lp hj ek
      · exact hno (c' - c) i (by omega) (by rw [wy, show c + (c' - c) = c' from by omega]; exact hj) (by rw [hh i p lp, ek])
/-- as adding asks -/
theorem find_at (R : SetM w s.heap S L es ep t) {x : Addr} {k : NestedKey} (hx : Mem s.heap k x) (hu : A.units + 8 < cLine) {Q : SetFound → Shared → Prop} (yes : k ∈ L.map (·.2) → Q (.there none) s)
    (no : ∀ K, k ∉ L.map (·.2) → way t.mask (k.hash w) K ∉ t.place.toList → (∀ c, c < K → way t.mask (k.hash w) c ∈ t.place.toList) → Q (.free (way t.mask (k.hash w) K) false) s) : wpAny (model P w) A (setSearch S (.ref x) (k.hash w) true) Q E s := by
  have rm := R.room
  obtain ⟨K, h1, h2, h3⟩ := R.tab.first (by rw [hss, List.length_map]; omega) (k.hash w)
  have big : 10 * SetTable.turns t.mask < 100000 := by
    unfold SetTable.turns
    rcases R.tab.mok
                                                                                                    with e | e | e <;> omega
  unfold setSearch
  exact find_from R hx hu h1 h2 h3 yes (fun z => no K z h2 h3) 100000 0 none rfl (Nat.zero_le _) (by omega) fun c' i p z => absurd z (Nat.not_lt_zero _)
end
end Mp
end
section
/-! Mp: a member is put into a set. -/
namespace Mp
open PySem PySem.Spec
                                                                                                    PyProof.Rows L2

theorem range_all {α : Type} : ∀ L : List α, (List.range L.length).filterMap (fun i => L[i]?) = L
  | [] => rfl
  | x :: L => by
    rw [List.length_cons, List.range_succ_eq_map, List.filterMap_cons_some (f := fun i => (x :: L)[i]?) (b := x) rfl, List.filterMap_map]
    exact congrArg (x :: ·) (range_all L)
theorem rows_order {w : PySem.World} {L : Rw} {es : Array (Int × Value)} (h : es.toList = rws w L) (order : Array Nat) (hp : order.toList.Perm (List.range L.length)) :
    ∃ L2 : Rw, (order.filterMap (es[·]?)).toList = rws w L2 ∧ L2.Perm L ∧ hss w L2 = order.toList.map fun i => (es.map (·.1)).getD i 0 := by
  have at_ : ∀ i : Nat, es[i]? = (L[i]?).map fun (p : Addr × NestedKey) => (p.2.hash w, Value.ref p.1) := fun i => by rw [← Array.getElem?_toList, h, rws, List.getElem?_map]
  refine ⟨order.toList.filterMap fun i => L[i]?, ?_, ?_, ?_⟩
  · rw [Array.toList_filterMap, rws, List.map_filterMap]
    exact congrArg (fun f => order.toList.filterMap f) (funext at_)
  · exact (hp.filterMap _).trans (by rw [range_all])
  · have key : ∀ l : List Nat, (∀ i ∈ l, i < L.length) → (l.filterMap fun i => L[i]?).map (fun p => p.2.hash w) = l.map fun i => (es.map (·.1)).getD i 0 := by
      intro l
      induction l with
      | nil => intro _; rfl
      | cons i l ih =>
        intro hl
        have hi :=
                                                                                                    hl i List.mem_cons_self
        have e : (es.map (·.1))[i]? = some ((L[i]).2.hash w) := by
          rw [Array.getElem?_map, at_, List.getElem?_eq_getElem hi]
          rfl
        rw [List.filterMap_cons_some (List.getElem?_eq_getElem hi), List.map_cons, List.map_cons, ih fun j hj => hl j (List.mem_cons_of_mem _ hj), Array.getD_eq_getD_getElem?, e]
        rfl
    exact key _ fun i hi => List.mem_range.mp (hp.mem_iff.mp hi)
section
variable {P : Program} {w : PySem.World} {A : Around} {E : Value → Shared → Prop} {s : Shared} {S : Addr} {L : Rw} {es : Array (Int × Value)} {ep : Nat} {t : SetTable}
/-- a larger table -/
theorem relay_m {o : Obj} (ho : s.heap.get? S = some o) (hex : o.ExactSet) (hd : o.data = .set es ep t) (hr : es.toList = rws w L) (h1 : t.place.size = L.length) (h2 : t.dummies = #[]) (h3 : L.length ≤ t.mask) (once : (L.map (·.2)).Nodup) (mem : ∀ p ∈ L, Mem s.heap p.2 p.1)
    (pl : t.plain = true) (ld : w.params.followText "set-order" = true ∨ t.led = true) (few : L.length < 64) {wanted M : Nat} (hw : SetTable.sizeAbove wanted - 1 = M) (hM : MaskOk M) (hs : SetTable.sizeAbove wanted ≤ 128) (hn : L.length * 5 < M * 3)
    {Q : Unit → Shared → Prop} (hQ : ∀ g L' es' ep' t', Heap.SameBut S s.heap g → SetM w g S L' es' ep' t' → L'.Perm L → Q () { s with heap := g }) : wpAny (model P w) A (setRelay S wanted) Q E s := by
  have sz := rws_len hr
  obtain ⟨t', order, e, hp, T, em, el, pl', dm'⟩ := relaid_ok t (hs := es.map (·.1)) (wanted := wanted) hw hM (by rw [Array.size_map, sz]; omega)
  rw [Array.size_map, sz] at hp
  obtain ⟨L2, r1, r2, r3⟩ := rows_order hr order hp
  rw [← r3] at T
  have sz2 : (order.filterMap (es[·]?)).size = L.length := (rws_len r1).trans r2.length_eq
  rw [setRelay_eq]
  refine wpAny_bind (wpAny_setState_of ho hd (tab_fits h1 sz h2 h3) ?_)
  dsimp only
  refine wp_if_neg
                                                                                                    (by rw [sizeLine_eq]; omega) ?_
  try refine wpAny_bind
                                                                                                    (wpAny_pure ?_)
  rw [e]
  dsimp only
  refine wpAny_bind ?_
  refine wp_if_neg (by rw [sz2, sz]; simp) ?_
  try refine wpAny_bind
                                                                                                    (wpAny_pure ?_)
  refine wpAny_pure ?_
  refine wpAny_storeSet_of ho hd ?_ (by rw [sz2, sizeLine_eq]; omega)
  have sb : Heap.SameBut S s.heap (s.heap.update S (Obj.putSet (order.filterMap (es[·]?)) t')) := Heap.SameBut.update ..
  exact hQ _ L2 (order.filterMap (es[·]?)) (ep + 1) t' sb ⟨⟨_, store_at ho hd, ⟨hex.1, hex.2.1, hex.2.2⟩, rfl⟩, r1, T, (r2.map (·.2)).nodup_iff.mpr once, fun p pm => (mem p (r2.mem_iff.mp pm)).same ho hd sb, by rw [pl']; exact pl, by rw [el]; exact ld, by rw [r2.length_eq, em]; exact hn, by rw [r2.length_eq]; exact few⟩ r2
theorem ins_perm {α : Type} (L : List α) (n : Nat) (x : α) : (L.take n ++ x :: L.drop n).Perm (x :: L) := by
  have z : (L.take n ++ x :: L.drop n).Perm (x :: (L.take n ++ L.drop n)) := List.perm_middle
  rwa [List.take_append_drop] at z
/-- one more -/
theorem put_m (R : SetM w s.heap S L es ep t) {x : Addr} {k : NestedKey} (hx : Mem s.heap k x) (hu : A.units + 8 < cLine) (hf : L.length + 1 < 64) {Q : Bool → Shared → Prop}
    (hQ : ∀ b g L' es' ep' t', Heap.SameBut S s.heap g → SetM w g S L' es' ep' t' → (k ∈ L.map (·.2) → L' = L) → (k ∉ L.map (·.2) → L'.Perm ((x, k) :: L)) → Q b { s with heap := g }) : wpAny (model P w) A (setAddHashed S (.ref x) (k.hash w)) Q E s := by
  obtain ⟨o, ho, hex, hd⟩ :=
                                                                                                    R.ob
  have sz := rws_len R.rows
  have rm := R.room
  unfold setAddHashed
  refine wpAny_holding ?_
  rw [show (100000 : Nat) = 99999 +
                                                                                                    1 from rfl, setAddHashedIn_succ]
  refine wpAny_bind
                                                                                                    (wpAny_setState_of ho hd R.fits ?_)
  dsimp only
  refine wp_if_neg
                                                                                                    (by simp [byScan, Value.scannable]) ?_
  try refine wpAny_bind
                                                                                                    (wpAny_pure ?_)
  refine wpAny_bind (find_at R hx hu (fun hm => ?_) fun K hm hK hb => ?_)
  · exact wpAny_pure (hQ false s.heap L es ep t (Heap.SameBut.refl S s.heap) R (fun _ => rfl) fun z => absurd hm z)
  · dsimp only
    refine wpAny_bind
                                                                                                    (wpAny_setState_of ho hd R.fits ?_)
    dsimp only
    obtain ⟨a1, a2, a3, a4, a5, a6, a7, a8, a9⟩ := R.tab.put hK hb
    have pl1 : (t.put (way t.mask (k.hash w) K)).1.plain = true := by rw [a6]; exact R.plain
    generalize hpt : t.put (way t.mask (k.hash w) K) = pt at a1 a3 a4 a5 a6 a7 a8 a9 pl1 ⊢
    obtain ⟨t1, n⟩ := pt
    dsimp only at a1 a3 a4 a5 a6 a7 a8 a9 pl1 ⊢
    subst a1
    have byv := (key_says (P := P) (w := w) k (.ref x) 8 s hx.is hx.num hx.dep).2
    first
      | (refine wpAny_bind ?_; refine wp_if_pos pl1 ?_; refine byv _ _ _ ?_)
      | refine wp_if_pos pl1 (wpAny_bind (byv _ _ _ ?_))
    simp only [if_true]
    generalize SetTable.below t.place (way t.mask (k.hash w) K) = n at a2 a3 ⊢
    have rows1 : (SetTable.insertAt es n (k.hash w, Value.ref x)).toList = rws w (L.take n ++ (x, k) :: L.drop n) := by
      rw [SetTable.toList_insertAt, R.rows, rws, rws, List.map_append, List.map_cons, List.map_take, List.map_drop]
    have pm := ins_perm L n (x, k)
    have hs1 : hss w (L.take n ++ (x, k) :: L.drop n) = (hss w L).take n ++ k.hash w :: (hss w L).drop n := by
      rw [hss, hss, List.map_append, List.map_cons, List.map_take, List.map_drop]
    rw [← hs1] at a3
    have len1 := pm.length_eq
    rw [List.length_cons] at len1
    have once1 : ((L.take n ++ (x, k) :: L.drop n).map (·.2)).Nodup := (pm.map (·.2)).nodup_iff.mpr (by rw [List.map_cons]; exact List.nodup_cons.mpr ⟨hm, R.once⟩)
    generalize L.take n ++ (x, k) :: L.drop n = L1 at rows1 pm hs1 a3 len1 once1
    have sz1 := rws_len rows1
    generalize SetTable.insertAt es n (k.hash w, Value.ref x) = es1 at rows1 sz1 ⊢
    refine wpAny_bind (wpAny_storeSet_of ho hd ?_ (by rw [sz1, len1, sizeLine_eq]; omega))
    have sb : Heap.SameBut S s.heap (s.heap.update S (Obj.putSet es1 t1)) := Heap.SameBut.update ..
    have ho1 := store_at
                                                                                                    (es' := es1) (t' := t1) ho hd
    generalize s.heap.update S (Obj.putSet es1 t1) = h1 at sb ho1 ⊢
    have mem1 : ∀ p ∈ L1, Mem h1 p.2 p.1 := fun p hp => by
      rcases List.mem_cons.mp
                                                                                                    (pm.mem_iff.mp hp) with e | hp
      · rw [e]
        exact hx.same ho hd sb
      · exact (R.mem p hp).same ho hd sb
    have ld1 : w.params.followText "set-order" = true ∨ t1.led = true := by rw [a5]; exact R.led
    have hl : (hss w L).length = L.length := by rw [hss, List.length_map]
    have szt : t1.place.size = L1.length := by
      have z := a3.sz
      rwa [hss, List.length_map] at z
    by_cases full : t1.tooFull = true
    · first
        | (refine wpAny_bind ?_; refine wp_if_pos (by simp [full]) ?_)
        | (refine wp_if_pos (by simp [full]) ?_; refine wpAny_bind ?_)
      have h5 : (L.length + 1) * 5 ≥ t1.mask * 3 := by
        have z := full
        unfold SetTable.tooFull at z
        rw [decide_eq_true_eq, a9, hl] at z
        exact z
      rw [sz]
      have two : (t.mask = 7 ∧ L.length = 4) ∨ (t.mask = 31 ∧ L.length = 18) := by
        rcases R.tab.mok
                                                                                                    with e | e | e
        · exact .inl (by rw [a4, e] at h5; rw [e] at rm; exact ⟨e, by omega⟩)
        · exact .inr (by rw [a4, e] at h5; rw [e] at rm; exact ⟨e, by omega⟩)
        · exact absurd h5 (by rw [a4, e]; omega)
      have le1 : L1.length ≤ t1.mask := by rw [len1, a4]; rcases two with ⟨e, e'⟩ | ⟨e, e'⟩ <;> omega
      have go : ∀ M, SetTable.sizeAbove
                                                                                                    (SetTable.grown (L.length + 1)) - 1 = M → MaskOk M → SetTable.sizeAbove (SetTable.grown (L.length + 1)) ≤ 128 → (L.length + 1) * 5 < M * 3 →
          wpAny (model P w) A (setRelay S (SetTable.grown (L.length + 1))) (fun _ s' => wpAny (model P w) A (pure true) Q E s') E { s with heap := h1 } := fun M b1 b2 b3 b4 =>
        relay_m (s := { s with heap := h1 }) ho1 ⟨hex.1, hex.2.1, hex.2.2⟩ rfl rows1 szt a3.dm le1 once1 mem1 pl1 ld1 (by rw [len1]; exact hf) b1 b2 b3 (by rw [len1]; exact b4) fun h2 L2 es2 ep2 t2 sb2 R2 pm2 => wpAny_pure (hQ true h2 L2 es2 ep2 t2 (sb.trans sb2) R2 (fun z => absurd z hm) fun _ => pm2.trans pm)
      rcases two with ⟨_, e2⟩ | ⟨_, e2⟩
      · exact go 31 (by rw [e2, size_20]) (.inr (.inl rfl)) (by rw [e2, size_20]; decide) (by omega)
      · exact go 127 (by rw [e2, size_76]) (.inr (.inr rfl)) (by rw [e2, size_76]; decide) (by omega)
    · first
        | refine wp_if_neg (by simp [full]) ?_
        | (refine wpAny_bind ?_; refine wp_if_neg (by simp [full]) ?_; refine wpAny_pure ?_)
      have z := full
      unfold SetTable.tooFull at z
      rw [decide_eq_true_eq, a9, hl] at z
      exact wpAny_pure (hQ true h1 L1 es1 (ep + 1) t1 sb ⟨⟨_, ho1, ⟨hex.1, hex.2.1, hex.2.2⟩, rfl⟩, rows1, a3, once1, mem1, pl1, ld1, by rw [len1]; omega, by rw [len1]; exact hf⟩ (fun z => absurd z hm) fun _ => pm)
end
end Mp
end
section
/-! Mp: the order by which data are sorted is that of cmD. -/
namespace Mp
open PySem PySem.Spec
                                                                                                    PyProof.Rows L2

theorem row_lo (x : PyData) (xs : List PyData) : PySem.W.rowLt [] (x :: xs) = true := by
  unfold PySem.W.rowLt
  rw [PySem.W.toks_all_cons]
  simp only [PySem.W.keyToksAll]
  rw [PyProof.Rows.lex_diff (O := itemOrd) (by simp)] <;> rfl
theorem row_hi (x : PyData) (xs : List PyData) : PySem.W.rowLt (x :: xs) [] = false := by
  unfold PySem.W.rowLt
  rw [PySem.W.toks_all_cons]
  simp only [PySem.W.keyToksAll]
  rw [PyProof.Rows.lex_diff (O := itemOrd) (by simp)] <;> rfl
theorem lt_rows {n : Nat} (ih : ∀ d e : D, sizeOf d ≤ n → okO d e = true → PySem.W.dataLt (py d) (py e) = ltD d e) : ∀ xs ys : List D, (∀ x ∈ xs, sizeOf x ≤ n) → okOs xs ys = true → PySem.W.rowLt (pys xs) (pys ys) = (cmDs xs ys == .lt)
  | [], [], _, _ => by
    have e : PySem.W.rowLt [] [] = false := PyProof.Rows.lex_irrefl _
    rw [pys, e]
    simp [cmDs]
  | [], y :: ys, _, _ => by
    rw [pys, pys, row_lo]
    simp [cmDs]
  | x :: xs, [], _, _ => by
    rw [pys, pys, row_hi]
    simp [cmDs]
  | x :: xs, y :: ys, hn, h => by
    have h' : okO x y = true ∧ okOs xs ys = true := by simpa only [okOs, Bool.and_eq_true] using h
    have r := lt_rows ih xs ys (fun z hz => hn z (List.mem_cons_of_mem _ hz)) h'.2
    have l := ih x y (hn x List.mem_cons_self) h'.1
    have e := eqv_cm x y h'.1
    unfold eqv at e
    unfold PySem.W.rowLt at r ⊢
    rw [pys, pys, PySem.W.dataLt_cons (alike_of x y h'.1), e, r, l, cmDs]
    unfold ltD
    cases cmD x y <;> simp [Ordering.then]
theorem lt_data_n : ∀ (n : Nat) (d e : D), sizeOf d ≤ n → okO d e = true → PySem.W.dataLt (py d) (py e) = ltD d e
  | 0, d, e, hn, h => by cases d <;> simp at hn
  | n + 1, d, e, hn, h => by
    cases d <;> cases e <;> simp only [okO] at h <;> first | (cases h; done) | skip
    · rename_i a b
      rw [py, py, PySem.W.dataLt_int]
      unfold ltD
      rw [cmD, cmI]
      by_cases h1 : a < b
      · simp [h1]
      · by_cases h2 : b < a <;> simp [h1, h2]
    · rename_i a b
      rw [py, py, PySem.W.dataLt_str]
      unfold ltD
      rw [cmD, cmS]
      by_cases h1 : a.cps.toList < b.cps.toList
      · simp [h1]
      · by_cases h2 : b.cps.toList < a.cps.toList <;> simp [h1, h2]
    · rename_i xs ys
      rw [py, py, PySem.W.dataLt_tuple]
      have := lt_rows (lt_data_n n) xs ys (fun x hx => by
        have := List.sizeOf_lt_of_mem hx
        simp at hn
        omega) h
      unfold PySem.W.rowLt at this
      rw [this]
      unfold ltD
      rw [cmD]
theorem lt_data {d e : D} (h : okO d e = true) : PySem.W.dataLt (py d) (py e) = ltD d e := lt_data_n (sizeOf d) d e (Nat.le_refl _) h
/-- the order of the sort -/
theorem le_data {d e : D} (h : okO e d = true) : PySem.W.dataLe false py d e = !ltD e d := by
  rw [PySem.W.dataLe_eq]
  show (!PySem.W.dataLt (py e) (py d)) = _
  rw [lt_data h]
end Mp
end
section
/-! Mp: set(list). -/
namespace Mp
open PySem PySem.Spec
                                                                                                    PyProof.Rows L2

/-- what the set has of the first i -/
structure Part (ks : Rw) (i : Nat) (L : Rw) : Prop where
  sub : ∀ p ∈ L, p ∈ ks.take i
  all : ∀ p ∈ ks.take i, p.2 ∈ L.map
                                                                                                    (·.2)
  len : L.length ≤ i
theorem take_more {α : Type} {l : List α} {i : Nat} {x : α} (h : l[i]? = some x) : l.take (i + 1) = l.take i ++ [x] := by
  rw [List.take_succ,
                                                                                                    h] <;> rfl
theorem Part.step {ks L L' : Rw} {i : Nat} {x : Addr × NestedKey} (g : Part ks i L) (h : ks[i]? = some x) (c1 : x.2 ∈ L.map (·.2) → L' = L) (c2 : x.2 ∉ L.map (·.2) → L'.Perm (x :: L)) : Part ks (i + 1) L' := by
  have tm := take_more h
  by_cases c : x.2 ∈ L.map (·.2)
  · rw [c1 c]
    exact ⟨fun p hp => by rw [tm]; exact List.mem_append_left _ (g.sub p hp), fun p hp => by
      rw [tm] at hp
      exact (List.mem_append.mp hp).elim (g.all p) fun z => by rw [List.mem_singleton.mp z]; exact c, Nat.le_succ_of_le g.len⟩
  · have pm := c2 c
    refine ⟨fun p hp => ?_,
                                                                                                    fun p hp => ?_, ?_⟩
    · rw [tm]
      exact (List.mem_cons.mp (pm.mem_iff.mp hp)).elim (fun e => by rw [e]; exact List.mem_append_right _ (List.mem_singleton.mpr rfl)) fun z => List.mem_append_left _ (g.sub p z)
    · rw [(pm.map
                                                                                                    (·.2)).mem_iff, List.map_cons]
      rw [tm] at hp
      exact (List.mem_append.mp hp).elim (fun z => List.mem_cons_of_mem _ (g.all p z)) fun z => by rw [List.mem_singleton.mp z]; exact List.mem_cons_self
    · rw [pm.length_eq,
                                                                                                    List.length_cons]
      exact Nat.succ_le_succ g.len
/-- the objects of h are in g -/
abbrev Kp (h g : Heap) : Prop := ∀ b o, h.get? b = some o → g.get? b = some o
section
variable {P : Program} {w : PySem.World} {A : Around} {E : Value → Shared → Prop} {s : Shared}
theorem SetM.kept {h g : Heap} {S : Addr} {L : Rw} {es : Array (Int × Value)} {ep : Nat} {t : SetTable} (R : SetM w h S L es ep t) (ha : ∀ o, h.get? S = some o → g.get? S = some o) (m : ∀ p ∈ L, Mem g p.2 p.1) : SetM w g S L es ep t := by
  obtain ⟨o, ho, r⟩ := R.ob
  exact ⟨⟨o, ha o ho, r⟩, R.rows, R.tab, R.once, m, R.plain, R.led, R.room, R.few⟩
abbrev newT (w : PySem.World) : SetTable := .fresh 0 0 (!w.params.followText "set-order")
abbrev newO (w : PySem.World) : Obj := { cls := .type "set", dict := none, data := .set #[] 0 (newT w) }
theorem setM_new {h : Heap} {S : Addr} (ho : h.get? S = some (newO w)) : SetM w h S [] #[] 0 (newT w) :=
  ⟨⟨_, ho, ⟨rfl, rfl, rfl⟩, rfl⟩, rfl, ⟨List.Pairwise.nil, rfl, rfl, .inl rfl, fun x hx => (by cases hx), fun i k j hi => (by simp [hss] at hi)⟩, List.nodup_nil, fun p hp => (by cases hp), rfl, by
    show _ ∨ (!w.params.followText
                                                                                                    "set-order") = true
    cases w.params.followText "set-order" <;> simp, by show 0 * 5 < 7 * 3; decide, by show 0 < 64; decide⟩
/-- the loop of set.update -/
theorem upd_loop {I : Addr} {fp wr : List Addr} {G : Array GenState → Array GenState → Prop} {n : Nat} {Pv : Nat → Value → Prop} {St : Nat → Shared → Prop} {R : Result → Shared → Prop} (V : WalksS P w A.in1 I fp wr G n Pv St) (S : Addr) (nf : S ∉ fp) (ks : Rw) (hn : n = ks.length) (few : ks.length < 64)
    (val : ∀ i v, Pv i v → ∃ p, ks[i]? = some p ∧ v = .ref p.1) (h0 : Heap) (hk : ∀ p ∈ ks, Mem h0 p.2 p.1) (nS : h0.get? S = none) (nw : ∀ b ∈ wr, h0.get? b = none) (hu : A.in1.units + 8 < cLine) :
    ∀ (m i : Nat) (s : Shared), n - i = m → i ≤ n → St i s → Kp h0 s.heap → (∃ L es ep t, SetM w s.heap S L es ep t ∧ Part ks i L) →
      (∀ s' L es ep t, Moved (S :: wr) G s s' → SetM w s'.heap S L es ep t → Part ks n L → Kp h0 s'.heap → R (.ok (.ret .none)) s') → codeAny (model P w) A (.builtin "set.update.loop" ⟨[.ref S, .ref I], []⟩) R s := by
  have Sw : S ∉ wr := fun z => nf (V.sub _ z)
  have sub : ∀ b ∈ wr, b ∈ S :: wr := fun b hb => List.mem_cons_of_mem _ hb
  have mv : ∀ {s s' : Shared}, Moved wr G s s' → Kp h0 s.heap → Kp h0 s'.heap := fun hm kp b o e => hm.heap b o (fun z => by rw [nw b z] at e; cases e) (kp b o e)
  intro m
  induction m with
  | zero =>
    intro i s hm hi st kp ⟨L, es, ep, t, hS, g⟩ hR
    obtain rfl : i = n := by omega
    refine codeAny_builtin
                                                                                                    F.entry_set_update_loop ?_
    rw [Around.under_plainId
                                                                                                    F.plain_set_update_loop _]
    show wpAny _ A.in1
                                                                                                    (pyNext (.ref I) >>= _) _ _ s
    refine wpAny_bind (V.done s _ _ st fun s' mo => ?_)
    show wpAny _ A.in1 (PySem.ret Value.none) _ _ s'
    have kp' := mv mo kp
    exact wpAny_pure (hR s' L es ep t (mo.mono sub) (hS.kept (fun o e => mo.heap S o Sw e) fun p hp => (hk p (List.mem_of_mem_take (g.sub p hp))).keep kp') g kp')
  | succ m ih =>
    intro i s hm hi st kp ⟨L, es, ep, t, hS, g⟩ hR
    have lt : i < n := by omega
    refine codeAny_builtin
                                                                                                    F.entry_set_update_loop ?_
    rw [Around.under_plainId
                                                                                                    F.plain_set_update_loop _]
    show wpAny _ A.in1
                                                                                                    (pyNext (.ref I) >>= _) _ _ s
    refine wpAny_bind (V.item i s _ _ lt st fun v s' pv st' mo => ?_)
    obtain ⟨p, hp, rfl⟩ := val i v pv
    have kp' := mv mo kp
    have hS' : SetM w s'.heap S L es ep t := hS.kept (fun o e => mo.heap S o Sw e) fun q hq => (hk q (List.mem_of_mem_take (g.sub q hq))).keep kp'
    have hx : Mem s'.heap p.2 p.1 := (hk p (List.mem_of_getElem? hp)).keep kp'
    show wpAny _ A.in1
                                                                                                    (holding [Value.ref p.1] (setAdd S (.ref p.1)) >>= _) _ _ s'
    refine wpAny_bind
                                                                                                    (wpAny_holding ?_)
    unfold setAdd
    refine wpAny_holding ?_
    refine wpAny_bind (pyHash_key p.2 _ _ _ _ hx.is (by have := hx.dep; omega) ?_)
    refine put_m (s := { s' with toks := s'.toks + p.2.draws }) hS' hx hu (by have := g.len; omega) fun b h' L' es' ep' t' sb hS2 c1 c2 => ?_
    have kp2 : Kp h0 h' := fun b o e => (sb.2 b (fun z => by rw [z, nS] at e; cases e)).trans (kp' b o e)
    have go := ih (i + 1) { s' with heap := h', toks := s'.toks + p.2.draws } (by omega) lt (V.frame _ s' _ _ st' (Nat.le_add_right _ _) fun b hb o e => (sb.2 b (fun z => nf (z ▸ hb))).trans e) kp2 ⟨L', es', ep', t', hS2, g.step hp c1 c2⟩
    refine wpAny_pure ⟨plainId_quiet F.plain_set_update_loop _, go fun s2 L2 es2 ep2 t2 mo2 hS3 g2 kp3 => ?_⟩
    exact hR s2 L2 es2 ep2 t2 (Moved.trans V.gtrans ((mo.mono sub).then_heap (Nat.le_add_right _ _) fun b o hb e => (sb.2 b (fun z => hb (by rw [z]; exact List.mem_cons_self))).trans e) mo2) hS3 g2 kp3
end
end Mp
end
section
/-! Mp: set(list), called. -/
namespace Mp
open PySem PySem.Spec
                                                                                                    PyProof.Rows L2

section
variable {P : Program} {w : PySem.World} {A : Around} {E : Value → Shared → Prop} {s : Shared}
theorem none_past {h : Heap} {b : Addr} (hb : h.objs.size ≤ b) : h.get? b = none := by
  cases q : h.get? b with
  | none => rfl
  | some o => exact absurd
                                                                                                    (Nat.lt_of_lt_of_le (Heap.lt_size q) hb) (Nat.lt_irrefl _)
set_option maxHeartbeats
                                                                                                    3200000 in
theorem call_set_m {l : Addr} {items : Array Value} (ks : Rw) {Q : Value → Shared → Prop} (nh : A.handled = none) (hl : s.heap.IsList l items) (hit : items.toList = ks.map fun p => Value.ref p.1) (hk : ∀ p ∈ ks, Mem s.heap p.2 p.1) (few : ks.length < 64) (hu : A.units + 12 < cLine)
    (hQ : ∀ (g : Heap) (tk : Nat) L es ep t, SetM w g s.heap.objs.size L es ep t → Part ks ks.length L → Kp s.heap g → Q (.ref s.heap.objs.size) { s with heap := g, toks := tk }) : wpAny (model P w) A (call (.type "set") [.ref l]) Q E s := by
  have isz : items.size = ks.length := by
    have z : items.toList.length = (ks.map fun p => Value.ref p.1).length := by rw [hit]
    simpa using z
  obtain ⟨c, tl, hmro⟩ :=
                                                                                                    F.called_set.mro
  have hmade :=
                                                                                                    F.called_set.made
  have hsub := F.called_set.sub
  refine wpAny_call
                                                                                                    (codeAny_of_tree ?_)
  show wpAny _ _
                                                                                                    (callAny (.type "set") _) _ _ _
  refine wpAny_pure ⟨Code.quiet_builtin _
                                                                                                    (by decide +kernel), codeAny_builtin F.entry_type_call ?_⟩
  rw [Around.under_plain
                                                                                                    (weight_type_call_type "set" [.ref l] []) rfl]
  have h1 :=
                                                                                                    F.called_set.notType
  have h2 :=
                                                                                                    F.called_set.canCreate
  have hct := F.typeCall_set_1
                                                                                                    (.ref l)
  repeat (any_goals
                                                                                                    (first | assumption | wp_step))
  generalize hg : s.heap.push (newO w) = g1
  have gS : g1.get? s.heap.objs.size = some (newO w) := by rw [← hg]; exact Heap.get?_push_size _ rfl
  have g1k : Kp s.heap g1 := fun b o e => by rw [← hg]; exact Heap.get?_push_of_some _ e
  have g1s : g1.objs.size = s.heap.objs.size + 1 := by rw [← hg]; exact Heap.size_push ..
  refine codeAny_mono (code_set_led1 (.ref l) (E := E) (Q₁ := fun obj t => obj = .ref s.heap.objs.size ∧ t = { s with heap := g1 }) ⟨rfl, by rw [← hg]⟩) fun r s₁ hr => ?_
  cases r with
  | error e => exact hr
  | ok fl =>
    cases fl with
    | ret obj =>
      obtain ⟨rfl, rfl⟩ := hr
      have hT : Shared.TypeIs { s with heap := g1 } (.ref s.heap.objs.size) "set" := ⟨_, gS, rfl⟩
      have hli :=
                                                                                                    F.called_set.init.lookup
      have hbi := F.called_set.init.bind
                                                                                                    (.ref s.heap.objs.size)
      repeat (any_goals
                                                                                                    (first | assumption | wp_step))
      refine codeAny_mono (codeAny_call_builtin (R := wants (fun r t => r = .none ∧ ∃ g tk L es ep tb, t = { s with heap := g, toks := tk } ∧ SetM w g s.heap.objs.size L es ep tb ∧ Part ks ks.length L ∧ Kp s.heap g) E) F.called_set.init.plain F.entry_set_init (check_set_init_1 hT ?_)) fun r₂ s₂ hr₂ => ?_
      · obtain ⟨⟨lc, ld, lx, ls⟩, ol, cl, nl, dl⟩ := hl
        simp only at cl dl
        subst cl
        subst dl
        have ol' := g1k _ _ ol
        have hsls := F.sub_list_set
        have hslf :=
                                                                                                    F.sub_list_frozenset
        have hne :
                                                                                                    (Value.type "list" == Value.type "dict") = false := by decide
        have hl1 : g1.IsList l items := ⟨_, ol', rfl, nl, rfl⟩
        unfold Builtin.«set.__init__»
                                                                                                    noKeywords Builtin.Frozenset.updateFrom
        generalize hPI : pyIter = PI
        wp_walk
        subst hPI
        refine wpAny_pyIter_list
                                                                                                    hl1 ?_
        refine wpAny_bind
                                                                                                    (wpAny_runValue ?_)
        have lS : l < s.heap.objs.size := Heap.lt_size ol
        have nh3 : A.in1.in1.in1.handled = none := by simp [nh]
        have lI : l ≠ g1.objs.size := by
          rw [g1s]
          exact Nat.ne_of_lt (Nat.lt_succ_of_lt lS)
        have nf : s.heap.objs.size ∉ [g1.objs.size, l] := by
          simp only [List.mem_cons, List.not_mem_nil, or_false, not_or]
          exact ⟨by rw [g1s]; exact Nat.ne_of_lt (Nat.lt_succ_self _), Nat.ne_of_gt lS⟩
        have val : ∀ (i : Nat) (v : Value), items[i]? = some v → ∃ p, ks[i]? = some p ∧ v = .ref p.1 := fun i v hv => by
          rw [← Array.getElem?_toList, hit, List.getElem?_map] at hv
          obtain ⟨p, e1, e2⟩ := Option.map_eq_some_iff.mp hv
          exact ⟨p, e1, e2.symm⟩
        refine upd_loop ((Walks.list nh3 _ l lI items).toS) s.heap.objs.size nf ks isz few val s.heap hk (none_past (Nat.le_refl _)) (fun b hb => none_past (by rw [List.mem_singleton.mp hb, g1s]; exact Nat.le_succ _)) (by show A.units + 1 + 1 + 1 + 8 < cLine; omega) (items.size - 0) 0 _ (by omega) (Nat.zero_le _)
          ⟨⟨_, Heap.get?_push_size _ rfl, rfl, rfl⟩, (hl1.push _)⟩ (fun b o e => Heap.get?_push_of_some _ (g1k b o e)) ⟨[], #[], 0, _, setM_new (Heap.get?_push_of_some _ gS), ⟨fun p h => (by cases h), fun p h => (by simp at h), Nat.le_refl _⟩⟩ ?_
        rintro ⟨g, gg, dr, tk, os⟩ L es ep t mo hS' g' kp
        obtain rfl : gg = s.gens := mo.gens
        obtain rfl : dr = s.drawn := mo.drawn
        obtain rfl : os = s.os := mo.os
        show wpAny _ _ _ _ _ _
        refine wpAny_pure ?_
        show wpAny _ _ (PySem.ret Value.none) _ _ _
        rw [isz] at g'
        exact wpAny_pure ⟨rfl, g, tk, L, es, ep, t, rfl, hS', g', kp⟩
      · cases r₂ with
        | error e => exact hr₂
        | ok fl₂ =>
          cases fl₂ with
          | ret r =>
            obtain ⟨rfl, g, tk, L, es, ep, t, rfl, hS', g', kp⟩ := hr₂
            repeat (any_goals
                                                                                                    (first | assumption | wp_step))
            exact hQ _ _ _ _ _ _ hS' g' kp
          | _ => exact hr₂.elim
    | _ => exact hr.elim
end
end Mp
end
section
/-! Mp: sorted(set). -/
namespace Mp
open PySem PySem.Spec
                                                                                                    PyProof.Rows L2

theorem perm_back {α β : Type} {f : α → β} {vs ws : List β} (h : vs.Perm ws) : ∀ L : List α, ws = L.map f → ∃ L1 : List α, L1.Perm L ∧ vs = L1.map f := by
  induction h with
  | nil =>
    intro L e
    cases L with
    | nil => exact ⟨[], .nil, rfl⟩
    | cons a r => cases e
  | cons x h ih =>
    intro L e
    cases L with
    | nil => cases e
    | cons a r =>
      rw [List.map_cons] at e
      injection e with e1 e2
      obtain ⟨L1, p, e3⟩ := ih r e2
      exact ⟨a :: L1, p.cons a, by rw [List.map_cons, e1, e3]⟩
  | swap x y l =>
    intro L e
    match L, e with
    | a :: b :: r, e =>
      rw [List.map_cons,
                                                                                                    List.map_cons] at e
      injection e with e1 e2
      injection e2 with e2 e3
      exact ⟨b :: a :: r, .swap a b r, by rw [List.map_cons, List.map_cons, e1, e2, e3]⟩
  | trans h1 h2 i1 i2 =>
    intro L e
    obtain ⟨L2, p2, e2⟩ := i2 L e
    obtain ⟨L1, p1, e1⟩ := i1 L2 e2
    exact ⟨L1, p1.trans p2, e1⟩
mutual
/-- a member as data -/
def dK : NestedKey → D
  | .none => .non
  | .num i => .int i
  | .text x => .str x
  | .tup ks => .tup (dKs ks)
def dKs : List NestedKey → List D
  | [] => []
  | k :: ks => dK k :: dKs ks
end
theorem each_same {α : Type} {R : Value → D → Prop} {f : α → Value} {g : α → D} : ∀ {L : List α}, (∀ p ∈ L, R (f p) (g p)) → PySem.W.EachIs R (L.map f) (L.map g)
  | [], _ => .nil
  | p :: L, h => .cons (h p List.mem_cons_self) (each_same fun q hq => h q (List.mem_cons_of_mem _ hq))
section
variable {P : Program} {w : PySem.World} {A : Around} {E : Value → Shared → Prop} {s : Shared} {S : Addr} {L : Rw} {es : Array (Int × Value)} {ep : Nat} {t : SetTable}
set_option maxHeartbeats
                                                                                                    2000000 in
theorem sorted_m {Q : Value → Shared → Prop} (R : SetM w s.heap S L es ep t) (nh : A.handled = none) (hu : A.units + 70 < cLine) (ok : SrtOk (L.map fun p => dK p.2)) (rd : ∀ p ∈ L, ∃ as, Reads s.heap (.ref p.1) (py (dK p.2)) as)
    (hQ : ∀ s' p (out : List Value) (c : Nat) (L1 : Rw), Kp s.heap s'.heap → s'.gens = s.gens → s'.os = s.os → s.heap.objs.size ≤ p → s'.heap.get? p = some (seqObj "list" out.toArray c) → L1.Perm L → out.length < 64 →
      PySem.W.EachIs (fun u d => ∃ p ∈ L, u = Value.ref p.1 ∧ d = dK p.2) out (sortD (L1.map fun p => dK p.2)) → Q (.ref p) s') : wpAny (model P w) A (call (.builtin "sorted") [.ref S]) Q E s := by
  obtain ⟨o, ho, hex, hd⟩ :=
                                                                                                    R.ob
  refine Calls.call_function_entry kind_sorted plain_sorted entry_sorted
                                                                                                    (args_sorted1 _) ?_
  unfold Builtin.«sorted»
  refine wpAny_bind
                                                                                                    (m := checkCount "sorted" 1 1 _) (wpAny_pure ?_)
  refine wpAny_bind (collect_set (A := A.in1) nh ⟨o, ho, hex.1, hd⟩ R.fits (by rw [rws_len R.rows]; have := R.few; unfold scanBound; omega) R.tab.ris R.led fun s1 vs k1 hz g1 o1 pm => ?_)
  have ve : es.toList.map (·.2) = L.map fun q => Value.ref q.1 := by
    rw [R.rows, rws, List.map_map]
    rfl
  rw [ve] at pm
  obtain ⟨L1, p1, rfl⟩ := perm_back pm L rfl
  have few : L1.length < 64 := by rw [p1.length_eq]; exact R.few
  have hlv : (L1.map fun q => Value.ref q.1).length ≤ sizeLine := by rw [List.length_map, sizeLine_eq]; omega
  have each : PySem.W.EachIs (fun u d => ∃ p ∈ L, u = Value.ref p.1 ∧ d = dK p.2) (L1.map fun q => Value.ref q.1) (L1.map fun p => dK p.2) := each_same fun p hp => ⟨p, p1.mem_iff.mp hp, rfl, rfl⟩
  refine wpAny_bind (wpAny_newList ?_ hlv)
  generalize (L1.map fun q => Value.ref q.1) = vs at each hlv ⊢
  have hoL :
                                                                                                    (s1.heap.push (seqObj "list" vs.toArray 0)).get? s1.heap.objs.size = some (seqObj "list" vs.toArray 0) := Heap.get?_push_size _ rfl
  have kp2 : Kp s.heap (PySem.W.sortingHeap (s1.heap.push (seqObj "list" vs.toArray 0)) s1.heap.objs.size vs) := fun b u e => by
    have q := k1 b u e
    exact PySem.W.sortingHeap_old (Nat.ne_of_lt (Heap.lt_size q)) (Heap.get?_push_of_some _ q)
  have er : PySem.W.EachIs (fun u d => ∃ as, Reads (PySem.W.sortingHeap (s1.heap.push (seqObj "list" vs.toArray 0)) s1.heap.objs.size vs) u (py d) as) vs (L1.map fun p => dK p.2) := each.mono fun u d ⟨p, hp, e1, e2⟩ => by
    obtain ⟨as, r⟩ := rd p hp
    rw [e1, e2]
    exact ⟨as, PyProof.Rows.Reads.keeps kp2 r⟩
  have mem1 : ∀ d ∈ L1.map (fun p => dK p.2), d ∈ L.map fun p => dK p.2 := fun d hd => (p1.map _).mem_iff.mp hd
  have al : PySem.W.AllAlike ((L1.map fun p => dK p.2).map py) := fun d hd e he => by
    obtain ⟨x, hx, rfl⟩ := List.mem_map.mp hd
    obtain ⟨y, hy, rfl⟩ := List.mem_map.mp he
    exact ok.al _ (List.mem_map.mpr ⟨x, mem1 x hx, rfl⟩) _ (List.mem_map.mpr ⟨y, mem1 y hy, rfl⟩)
  have so : PySem.W.Sortable ((L1.map fun p => dK p.2).map py) := by
    rcases ok.so with h | h
    · refine .inl fun d hd => ?_
      obtain ⟨x, hx, rfl⟩ := List.mem_map.mp hd
      exact h _ (List.mem_map.mpr ⟨x, mem1 x hx, rfl⟩)
    · refine .inr fun d hd => ?_
      obtain ⟨x, hx, rfl⟩ := List.mem_map.mp hd
      exact h _ (List.mem_map.mpr ⟨x, mem1 x hx, rfl⟩)
  have bd : ∀ d ∈ L1.map (fun p => dK p.2), A.in1.in1.units + (py d).depth < cLine := fun d hd => by
    have := shp_dep (ok.sh d (mem1 d hd))
    show A.units + 1 + 1 + _ < _
    omega
  have So := PySem.W.SortsAt.data (prog := P) (w := w) (A := A.in1.in1) (s := { s1 with heap := PySem.W.sortingHeap (s1.heap.push (seqObj "list" vs.toArray 0)) s1.heap.objs.size vs }) (PySem.W.each_map (R := fun v d => ∃ as, Reads (PySem.W.sortingHeap (s1.heap.push (seqObj "list" vs.toArray 0)) s1.heap.objs.size vs) v d as) py er) al so (PySem.W.bound_map bd)
  have el := PySem.W.sortVals_data false each er al
  have ln : vs.length = L1.length := by rw [each.length, List.length_map]
  generalize PySem.W.dataKind (PySem.W.sortingHeap (s1.heap.push (seqObj "list" vs.toArray 0)) s1.heap.objs.size vs) ((L1.map fun p => dK p.2).map py) = κ at So el
  have lo := PySem.W.sortVals_length (κ := κ) false (ks := vs) (vs := vs) rfl
  refine wpAny_bind (wpAny_holding (wpAny_call_entry slot_list_sort ⟨_, hoL, rfl⟩ entry_list_sort (PySem.W.list_sort_vals hoL So hlv ⟨.none, rfl, ?_⟩) (args_list_sort _)))
  generalize PySem.W.sortVals κ false vs vs = out at el lo ⊢
  obtain ⟨c, hc⟩ := sortedHeap_at (vs := vs) (out := out.toArray) hoL
  refine wpAny_pure ⟨_, rfl, hQ _ s1.heap.objs.size out c L1 (fun b u e => ?_) g1 o1 hz hc p1 (by rw [lo, ln]; exact few) el⟩
  have q := k1 b u e
  have lt := Heap.lt_size q
  exact (sortedHeap_old (Nat.ne_of_lt lt) (by rw [size_push']; exact Nat.lt_succ_of_lt lt)).trans (Heap.get?_push_of_some _ q)
end
end Mp
end
section
/-! Mp: sorted(set(list)). -/
namespace Mp
open PySem PySem.Spec
                                                                                                    PyProof.Rows L2

mutual
theorem dK_kD : ∀ d : D, numD d = true → dK (kD d) = d
  | .int _, _ => rfl
  | .tup xs, h => by rw [kD, dK, dKs_kDs xs (by simpa only [numD] using h)]
  | .non, h => by simp [numD] at h
  | .bl _, h => by simp [numD] at h
  | .str _, h => by simp [numD] at h
  | .lst _, h => by simp [numD] at h
  | .st, h => by simp [numD] at h
  | .gl _, h => by simp [numD] at h
  | .dic _ _, h => by simp [numD] at h
  | .clo _ _, h => by simp [numD] at h
theorem dKs_kDs : ∀ xs : List D, numDs xs = true → dKs (kDs xs) = xs
  | [], _ => rfl
  | x :: xs, h => by
    simp only [numDs, Bool.and_eq_true] at h
    rw [kDs, dKs, dK_kD x h.1, dKs_kDs xs h.2]
end
mutual
theorem num_kD : ∀ d : D, numD d = true → numK (kD d) = true
  | .int _, _ => rfl
  | .tup xs, h => by rw [kD, numK, num_kDs xs (by simpa only [numD] using h)]
  | .non, h => by simp [numD] at h
  | .bl _, h => by simp [numD] at h
  | .str _, h => by simp [numD] at h
  | .lst _, h => by simp [numD] at h
  | .st, h => by simp [numD] at h
  | .gl _, h => by simp [numD] at h
  | .dic _ _, h => by simp [numD] at h
  | .clo _ _, h => by simp [numD] at h
theorem num_kDs : ∀ xs : List D, numDs xs = true → numKs (kDs xs) = true
  | [], _ => rfl
  | x :: xs, h => by
    simp only [numDs, Bool.and_eq_true] at h
    rw [kDs, numKs, num_kD x h.1, num_kDs xs h.2] <;> rfl
end
section
variable {X : Cx} {W : Wp} {Z : Zp} {F : Hp} {pins : List (Addr × Obj)} {σ : L2.St} {H : Hp} {s : Shared}
mutual
theorem nest_of (I : Inv X pins σ H s) (l : ∀ a o, F a = some o → H a = some o) : ∀ (d : D) (v : V) (u : Value), numD d = true → Rep W Z F d v → RelV v u → NestedIs s.heap (kD d) u
  | .int i, v, u, _, r, e => by
    have ev : v = .int i := r
    subst ev
    obtain ⟨t, rfl⟩ := e
    exact .int i t
  | .tup xs, v, u, h, r, e => by
    obtain ⟨a, vs, rfl, h1, h2⟩ := r
    obtain rfl : u = Value.ref a := e
    obtain ⟨its, rv, ⟨o, ho, hc, n, hd⟩, _⟩ := I.tuple (SqT.of (l a _ h1))
    rw [kD]
    exact .tup ho hc hd (by simpa using nests_of I l xs vs its (by simpa only [numD] using h) h2 rv)
  | .non, _, _, h, _, _ => by simp [numD] at h
  | .bl _, _, _, h, _, _ => by simp [numD] at h
  | .str _, _, _, h, _, _ => by simp [numD] at h
  | .lst _, _, _, h, _, _ => by simp [numD] at h
  | .st, _, _, h, _, _ => by simp [numD] at h
  | .gl _, _, _, h, _, _ => by simp [numD] at h
  | .dic _ _, _, _, h, _, _ => by simp [numD] at h
  | .clo _ _, _, _, h, _, _ => by simp [numD] at h
theorem nests_of (I : Inv X pins σ H s) (l : ∀ a o, F a = some o → H a = some o) : ∀ (xs : List D) (vs : List V) (us : List Value), numDs xs = true → Reps W Z F xs vs → Vals vs us → NestedAll s.heap (kDs xs) us
  | [], vs, us, _, r, e => by
    have ev : vs = [] := r
    subst ev
    cases e
    exact .nil
  | x :: xs, vs, us, h, r, e => by
    obtain ⟨v, t, rfl, r1, r2⟩ := r
    simp only [numDs, Bool.and_eq_true] at h
    cases e with
    | cons a b => exact .cons (nest_of I l x v _ h.1 r1 a) (nests_of I l xs t _ h.2 r2 b)
end
end
/-- members with their addresses -/
theorem refs_of {W : Wp} {Z : Zp} {F : Hp} : ∀ {ds : List D} {vs : List V}, (∀ d ∈ ds, memOk d = true) → Reps W Z F ds vs → ∃ ks : Rw, vs = ks.map (fun p => V.ref p.1) ∧ ks.map (·.2) = ds.map kD ∧ ∀ p ∈ ks, ∃ d ∈ ds, p.2 = kD d ∧ Rep W Z F d (.ref p.1)
  | [], vs, _, r => ⟨[], r, rfl, fun p hp => (by cases hp)⟩
  | d :: ds, vs, h, r => by
    obtain ⟨v, t, rfl, r1, r2⟩ := r
    obtain ⟨ks, e1, e2, e3⟩ := refs_of (fun e he => h e (List.mem_cons_of_mem _ he)) r2
    have hd := h d List.mem_cons_self
    have hv : ∃ a, v = .ref a := by
      cases d <;> simp only [memOk, neTup, Bool.false_and] at hd <;> first | (cases hd; done) | skip
      obtain ⟨a, vs, e, _⟩ := r1
      exact ⟨a, e⟩
    obtain ⟨a, rfl⟩ := hv
    exact ⟨(a, kD d) :: ks, by rw [e1]; rfl, by rw [List.map_cons, List.map_cons, e2], fun p hp => by
      rcases List.mem_cons.mp hp with rfl | z
      · exact ⟨d, List.mem_cons_self, rfl, r1⟩
      · obtain ⟨e, he, q⟩ := e3 p z
        exact ⟨e, List.mem_cons_of_mem _ he, q⟩⟩
theorem vals_refs : ∀ {ks : Rw} {us : List Value}, Vals (ks.map fun p => V.ref p.1) us → us = ks.map fun p => Value.ref p.1
  | [], _, .nil => rfl
  | p :: ks, _, .cons r t => by
    cases r
    exact congrArg (_ :: ·) (vals_refs t)
/-- the set at S but for its members -/
structure SetM0 (w : PySem.World) (h : Heap) (S : Addr) (L : Rw) : Prop where
  ex : ∃ (es : Array (Int × Value)) (ep : Nat) (t : SetTable), (∃ o, h.get? S = some o ∧ o.ExactSet ∧ o.data = .set es ep t) ∧ ((es.toList = rws w L ∧ L2.TabOk t (hss w L) ∧ (L.map (·.2)).Nodup) ∧ t.plain = true ∧ (w.params.followText "set-order" = true ∨ t.led = true) ∧ L.length * 5 < t.mask * 3 ∧ L.length < 64)
def SetMO (w : PySem.World) (S : Addr) (L : Rw) : HO := .ext fun h => SetM0 w h S L
theorem setMO_new {P : Program} {w : PySem.World} {H : Hp} {h : Heap} {S : Addr} {L : Rw} {es : Array (Int × Value)} {ep : Nat} {t : SetTable} (R : SetM w h S L es ep t) : ObjOk P w H h S (SetMO w S L) := by
  obtain ⟨o, ho, r⟩ := R.ob
  refine ⟨⟨es, ep, t, ⟨o, ho, r⟩, ⟨R.rows, R.tab, R.once⟩, R.plain, R.led, R.room, R.few⟩, ⟨o, ho⟩, fun h1 h2 p k => ?_⟩
  obtain ⟨es', ep', t', ⟨o', ho', r'⟩, q'⟩ := SetM0.ex p
  exact ⟨es', ep', t',
                                                                                                    ⟨o', k o' ho', r'⟩, q'⟩
section
variable {X : Cx} {W : Wp} {Γ : Gam} {E : XK} {a : Expr} {A : T}
/-- what a set's members are -/
structure Mems (W : Wp) (Z : Zp) (F : Hp) (ds : List D) (L : Rw) : Prop where
  is : ∀ p ∈ L, ∃ d ∈ ds, p.2 = kD d ∧ Rep W Z F d (.ref p.1)
  all : ∀ d ∈ ds, kD d ∈ L.map (·.2)
  once : (L.map (·.2)).Nodup
def rSet (W : Wp) (w : PySem.World) : List V → Hp → VK → Prop := fun xs H Q => ∃ q st ds, Sit0 W q st H ∧ Reps W q.Z (hid q.B H) [.lst ds] xs ∧ (∀ d ∈ ds, memOk d = true) ∧ ds.length < 64 ∧
  ∀ S L, H S = none → Mems W q.Z (hid q.B H) ds L → Q (.ref S) (upd H S (SetMO w S L))
theorem mem_of {q : Sit} {H : Hp} {pins : List (Addr × Obj)} {σ : L2.St} {s : Shared} (I : Inv X pins σ H s) {d : D} {b : Addr} (m : memOk d = true) (r : Rep W q.Z (hid q.B H) d (.ref b)) : Mem s.heap (kD d) b := by
  unfold memOk at m
  simp only [Bool.and_eq_true, decide_eq_true_eq] at m
  exact ⟨nest_of I (fun a o e => (hid_some e).2) d _ _ m.1.2 r rfl, m.2, num_kD d m.1.2⟩
theorem cr_set (hc : X.calm = true) (hu : X.A.units + 64 < cLine) : CallR X (.type "set") (rSet W X.w) := by
  intro pins s σ H xs us Q I r ⟨q, st, ds, s0, r0, hm, few, k⟩
  obtain ⟨v, rfl, r1⟩ := reps1 r0
  obtain ⟨l, vs, rfl, h1, h2⟩ := s0.lst r1
  obtain rfl := Vals.ref1 r
  obtain ⟨its, rv, pl, hz⟩ := I.list (a := l) (SqL.of h1)
  obtain ⟨ks, rfl, e2, e3⟩ := refs_of hm h2
  have hn : H s.heap.objs.size = none := I.hok.fresh
                                                                                                    (Nat.le_refl _)
  have kl : ks.length = ds.length := by
    have := congrArg List.length e2
    simpa using this
  refine call_set_m (P := X.prog) (w := X.w) ks (I.ok.hd hc) pl.isList (by simpa using vals_refs rv) (fun p hp => ?_) (by rw [kl]; exact few) (by omega) fun g tk L es ep t R pt kp => ?_
  · obtain ⟨d, hd, e, rd⟩ := e3 p hp
    rw [e]
    exact mem_of I (hm d hd) rd
  · refine ⟨.ref s.heap.objs.size, upd H s.heap.objs.size (SetMO X.w s.heap.objs.size L), I.laid (t' := tk) kp (Nat.le_refl _) (setMO_new R), rfl, k _ L hn ⟨fun p hp => e3 p (List.mem_of_mem_take (pt.sub p hp)), fun d hd => ?_, R.once⟩⟩
    have z : kD d ∈ ks.map (·.2) := by rw [e2]; exact List.mem_map.mpr ⟨d, hd, rfl⟩
    obtain ⟨p, hp, e⟩ := List.mem_map.mp z
    rw [← e]
    exact pt.all p (by rw [List.take_length]; exact hp)
end
end Mp
end
section
/-! Mp: each once; sorted alike. -/
namespace Mp
open PySem PySem.Spec
                                                                                                    PyProof.Rows L2

theorem cm_refl (d : D) : cmD d d = .eq := by
  have := cmD_swap d d
  cases h : cmD d d <;> rw [h] at this <;> simp [Ordering.swap] at this
theorem cmI_eq {a b : Int} (h : cmI a b = .eq) : a = b := by
  unfold cmI at h
  split at h
  · cases h
  · split at h
    · cases h
    · omega
theorem then_eq {a b : Ordering} (h : a.then b = .eq) : a = .eq ∧ b = .eq := by cases a <;> cases b <;> simp [Ordering.then] at h <;> exact ⟨rfl, rfl⟩
theorem cms_eq {n : Nat} (ih : ∀ d e : D, sizeOf d ≤ n → numD d = true → numD e = true → cmD d e = .eq → d = e) : ∀ xs ys : List D, (∀ x ∈ xs, sizeOf x ≤ n) → numDs xs = true → numDs ys = true → cmDs xs ys = .eq → xs = ys
  | [], [], _, _, _, _ => rfl
  | [], _ :: _, _, _, _, h => by simp [cmDs] at h
  | _ :: _, [], _, _, _, h => by simp [cmDs] at h
  | x :: xs, y :: ys, hn, h1, h2, h => by
    simp only [numDs, Bool.and_eq_true] at h1 h2
    rw [cmDs] at h
    obtain ⟨a, b⟩ := then_eq h
    rw [ih x y (hn x List.mem_cons_self) h1.1 h2.1 a, cms_eq ih xs ys (fun z hz => hn z (List.mem_cons_of_mem _ hz)) h1.2 h2.2 b]
theorem cm_eq_n : ∀ (n : Nat) (d e : D), sizeOf d ≤ n → numD d = true → numD e = true → cmD d e = .eq → d = e
  | 0, d, e, hn, _, _, _ => by cases d <;> simp at hn
  | n + 1, d, e, hn, h1, h2, h => by
    cases d <;> simp only [numD] at h1 <;> first | (cases h1; done) | skip
    · cases e <;> simp only [numD] at h2 <;> first | (cases h2; done) | skip
      · rw [cmD] at h
        rw [cmI_eq h]
      · simp [cmD, rk, cmN] at h
    · rename_i xs
      cases e <;> simp only [numD] at h2 <;> first | (cases h2; done) | skip
      · simp [cmD, rk, cmN] at h
      · rw [cmD] at h
        rw [cms_eq (cm_eq_n n) xs _ (fun x hx => by
          have := List.sizeOf_lt_of_mem hx
          simp at hn
          omega) h1 h2 h]
theorem cm_eq {d e : D} (h1 : numD d = true) (h2 : numD e = true) (h : cmD d e = .eq) : d = e := cm_eq_n _ d e (Nat.le_refl _) h1 h2 h
theorem nub_mem : ∀ {ds : List D} {d : D}, d ∈ nubD ds → d ∈ ds
  | [], _, h => by cases h
  | x :: xs, d, h => by
    rw [nubD] at h
    rcases List.mem_cons.mp h with e | z
    · rw [e]
      exact List.mem_cons_self
    · exact List.mem_cons_of_mem _ (nub_mem (List.mem_filter.mp z).1)
theorem mem_nub : ∀ {ds : List D} {d : D}, (∀ e ∈ ds, numD e = true) → d ∈ ds → d ∈ nubD ds
  | x :: xs, d, hn, h => by
    rw [nubD]
    by_cases e : cmD x d = .eq
    · have hd : numD d = true := hn d h
      rw [cm_eq (hn x List.mem_cons_self) hd e]
      exact List.mem_cons_self
    · rcases List.mem_cons.mp h with z | z
      · rw [z, cm_refl] at e
        exact absurd rfl e
      · exact List.mem_cons_of_mem _ (List.mem_filter.mpr ⟨mem_nub (fun e he => hn e (List.mem_cons_of_mem _ he)) z, by simp [e]⟩)
theorem nub_nodup : ∀ ds : List D, (nubD ds).Nodup
  | [] => List.nodup_nil
  | x :: xs => by
    rw [nubD, List.nodup_cons]
    exact ⟨fun z => by
      have := (List.mem_filter.mp z).2
      rw [cm_refl] at this
      simp at this, (nub_nodup xs).filter _⟩
theorem le_tot : PySem.W.TotalLe (PySem.W.dataLe false py) := PySem.W.sortLe_total ..
theorem sort_pw (xs : List D) : (sortD xs).Pairwise fun a b => PySem.W.dataLe false py a b = true :=
  List.pairwise_mergeSort (fun a b c => le_tot.trans a b c) (fun a b => by simpa using le_tot.total a b) xs
theorem sort_perm (xs : List D) : (sortD xs).Perm xs := List.mergeSort_perm _ _
/-- the same sorted -/
theorem sort_same {xs ys : List D} (ok : okAll xs = true) (hn : ∀ d ∈ xs, numD d = true) (p : ys.Perm xs) : sortD ys = sortD xs := by
  refine List.Perm.eq_of_pairwise (le := fun a b => PySem.W.dataLe false py a b = true) (fun a b ha hb h1 h2 => ?_) (sort_pw ys) (sort_pw xs) ((sort_perm ys).trans (p.trans (sort_perm xs).symm))
  have ma : a ∈ xs := p.mem_iff.mp ((sort_perm ys).mem_iff.mp ha)
  have mb : b ∈ xs := (sort_perm xs).mem_iff.mp hb
  rw [le_data (okAll_mem ok mb ma), Bool.not_eq_true', ltD_no] at h1
  rw [le_data (okAll_mem ok ma mb), Bool.not_eq_true', ltD_no] at h2
  refine cm_eq (hn a ma) (hn b mb) ?_
  rw [cmD_swap] at h1
  cases h : cmD a b with
  | eq => rfl
  | lt => exact absurd h h2
  | gt =>
    rw [h] at h1
    exact absurd rfl h1
end Mp
end
section
/-! Mp: sorted(set(list)), as a value. -/
namespace Mp
open PySem PySem.Spec
                                                                                                    PyProof.Rows L2

theorem memOk_num {d : D} (h : memOk d = true) : numD d = true := by
  unfold memOk at h
  simp only [Bool.and_eq_true]
                                                                                                    at h
  exact h.1.2
theorem mems_perm {W : Wp} {Z : Zp} {F : Hp} {ds : List D} {L : Rw} (m : Mems W Z F ds L) (hm : ∀ d ∈ ds, memOk d = true) : (L.map fun p => dK p.2).Perm (nubD ds) := by
  have hn : ∀ d ∈ ds, numD d = true := fun d hd => memOk_num (hm d hd)
  have inj : (L.map fun p => dK p.2).Nodup := by
    have e : (L.map fun p => dK p.2) = (L.map (·.2)).map dK := by rw [List.map_map]; rfl
    rw [e]
    refine List.pairwise_map.mpr (List.Pairwise.imp_of_mem (fun {a b} ha hb ne eq => ne ?_) m.once)
    obtain ⟨p, hp, rfl⟩ := List.mem_map.mp ha
    obtain ⟨q, hq, rfl⟩ :=
                                                                                                    List.mem_map.mp hb
    obtain ⟨d, hd, e1, _⟩ := m.is p hp
    obtain ⟨d', hd', e2, _⟩ := m.is q hq
    rw [e1, e2, dK_kD d (hn d hd), dK_kD d' (hn d' hd')] at eq
    rw [e1, e2, eq]
  refine (List.perm_ext_iff_of_nodup inj (nub_nodup ds)).mpr fun d => ⟨fun h => ?_, fun h => ?_⟩
  · obtain ⟨p, hp, rfl⟩ := List.mem_map.mp h
    obtain ⟨d, hd, e1, _⟩ := m.is p hp
    rw [e1, dK_kD d (hn d hd)]
    exact mem_nub hn hd
  · have hd := nub_mem h
    obtain ⟨p, hp, e⟩ := List.mem_map.mp (m.all d hd)
    exact List.mem_map.mpr ⟨p, hp, by rw [e, dK_kD d (hn d hd)]⟩
theorem mems_in {W : Wp} {Z : Zp} {F : Hp} {ds : List D} {L : Rw} (m : Mems W Z F ds L) (hm : ∀ d ∈ ds, memOk d = true) {p : Addr × NestedKey} (hp : p ∈ L) : dK p.2 ∈ ds ∧ Rep W Z F (dK p.2) (.ref p.1) ∧ ∃ d ∈ ds, p.2 = kD d := by
  obtain ⟨d, hd, e1, r⟩ := m.is p hp
  rw [e1, dK_kD d (memOk_num (hm d hd))]
  exact ⟨hd, r, d, hd, rfl⟩
theorem srtOk_sub {xs ys : List D} (ok : SrtOk xs) (h : ∀ d ∈ ys, d ∈ xs) : SrtOk ys := by
  have mp : ∀ d ∈ ys.map py, d ∈ xs.map py := fun d hd => by
    obtain ⟨x, hx, rfl⟩ := List.mem_map.mp hd
    exact List.mem_map.mpr ⟨x, h x hx, rfl⟩
  exact ⟨fun d hd e he => ok.al d (mp d hd) e (mp e he), ok.so.elim (fun z => .inl fun d hd => z d (mp d hd)) fun z => .inr fun d hd => z d (mp d hd), fun d hd => ok.sh d (h d hd)⟩
section
variable {X : Cx} {W : Wp} {Γ : Gam} {E : XK} {a : Expr} {A : T}
def rSrtM (W : Wp) (w : PySem.World) : List V → Hp → VK → Prop := fun xs H Q => ∃ q st ds S L, Sit0 W q st H ∧ xs = [V.ref S] ∧ H S = some (SetMO w S L) ∧ Mems W q.Z (hid q.B H) ds L ∧ srtOk ds = true ∧ (∀ d ∈ ds, memOk d = true) ∧ Post W q st H (.lst (sortD (nubD ds))) Q
theorem cr_srtM (hc : X.calm = true) (hu : X.A.units + 80 < cLine) : CallR X (.builtin "sorted") (rSrtM W X.w) := by
  intro pins s σ H xs us Q I r ⟨q, st, ds, S, L, s0, e0, hS, m, ok, hm, k⟩
  subst e0
  obtain rfl := Vals.ref1 r
  have z0 : SetM0 X.w s.heap S L := (I.hok S _ hS).1
  obtain ⟨es, ep, t, ob, ⟨h1, h2, h3⟩, h4, h5, h6, h7⟩ := z0.ex
  have R : SetM X.w s.heap S L es ep t := ⟨ob, h1, h2, h3, fun p hp => by
    obtain ⟨d, hd, e1, rd⟩ := m.is p hp
    rw [e1]
    exact mem_of I (hm d hd) rd, h4, h5, h6, h7⟩
  have so := srtOk_of ok
  have ok2 : SrtOk (L.map fun p => dK p.2) := srtOk_sub so fun d hd => by
    obtain ⟨p, hp, rfl⟩ := List.mem_map.mp hd
    exact (mems_in m hm hp).1
  refine sorted_m (P := X.prog) (w := X.w) R (I.ok.hd hc) (by omega) ok2 (fun p hp => ?_) fun s' p out c L1 kp g1 o1 hp hg p1 few el => ?_
  · obtain ⟨hd, rd, _⟩ := mems_in m hm hp
    exact Dp.reads I (py (dK p.2)) (V.ref p.1) _ (dp_of _ _ (shp_lay (so.sh _ hd)) rd) rfl
  · have eq : sortD (L1.map fun p => dK p.2) = sortD (nubD ds) := by
      have okn : okAll (nubD ds) = true := by
        unfold srtOk at ok
        simp only [Bool.and_eq_true]
                                                                                                    at ok
        exact List.all_eq_true.mpr fun x hx => List.all_eq_true.mpr fun y hy => okAll_mem ok.1.1 (nub_mem hx) (nub_mem hy)
      exact sort_same okn (fun d hd => memOk_num (hm d (nub_mem hd))) ((p1.map _).trans (mems_perm m hm))
    rw [eq] at el
    obtain ⟨vs, rv, vv⟩ := of_each (W := W) (Z := q.Z) (F := hid q.B H) (el.mono fun u d ⟨p, hp, e1, e2⟩ => by
      rw [e1, e2]
      exact ⟨V.ref p.1, rfl, (mems_in m hm hp).2.1⟩)
    have hn : H p = none :=
                                                                                                    I.hok.fresh hp
    have hl : vs.length ≤ sizeLine := by rw [vv.length, sizeLine_eq]; omega
    have J : Inv X pins σ (upd H p (.lst vs)) s' := inv_of I o1 (by rw [g1]; exact I.bare) (Un.laid kp hp hn) (I.hok.laid kp hp ⟨hl, out, c, vv, hg⟩)
    exact ⟨.ref p, _, J, rfl, k.lst s0 rv _ hn⟩
theorem r_srts {p p2 pos pos2 : Pos} (hc : X.calm = true) (hu : X.A.units + 80 < cLine) (g1 : Gl X "sorted") (m1 : X.mg "sorted" = none) (g2 : Gl X "set") (m2 : X.mg "set" = none) (ha : PE X a (tE W Γ A E)) (hs : noStar [a] = true) :
    PE X (.Call (.Name "sorted" p) [.Call (.Name "set" p2) [a] [] pos2] [] pos) (tE W Γ (.bi .srts [A]) E) := by
  have s1 := star_one (env := X.env) hs
  refine (pe_callB (cr_srtM (W := W) hc hu) g1 m1 (by decide +kernel) (pa_cons (pe_callTy (cr_set (W := W) hc (by omega)) g2 m2 (by decide +kernel) (r_cons ha r_nil s1.1) (by decide) (by decide) s1.1 rfl) pa_nil rfl)).imp fun σ H Q ⟨q, st, h, f⟩ => ?_
  refine many h f fun ds st' H' xs a' g r f' => ?_
  obtain ⟨z, ez, f2⟩ := Fin.ofO1 f'
  match ds, ez with
  | [.lst es], ez =>
    have ez : (if srtOk es && es.all memOk && decide (es.length < 64) then some (D.lst (sortD (nubD es))) else none) = some z := ez
    split at ez
    next hk =>
      cases ez
      simp only [Bool.and_eq_true, decide_eq_true_eq, List.all_eq_true] at hk
      refine ⟨q, st', es, a'.s0, r, hk.1.2, hk.2, fun S L hS m => ?_⟩
      have gr : Grow q.Z H' (upd H' S (SetMO X.w S L)) := .new hS
      have m' : Mems W q.Z (hid q.B (upd H' S (SetMO X.w S L))) es L := ⟨fun p hp => by
        obtain ⟨d, hd, e1, rd⟩ := m.is p hp
        exact ⟨d, hd, e1, Rep.mono (a'.s0.le gr) _ _ rd⟩, m.all, m.once⟩
      exact ⟨q, st', es, S, L, a'.s0.grow gr (a'.w.new hS), rfl, upd_same, m', hk.1.1, hk.1.2, .of (f2.grow gr) (g.trans gr)⟩
    next => cases ez
  | [], ez => cases ez
  | [.non], ez => cases ez
  | [.bl _], ez => cases ez
  | [.int _], ez => cases ez
  | [.str _], ez => cases ez
  | [.tup _], ez => cases ez
  | [.st], ez => cases ez
  | [.gl _], ez => cases ez
  | [.dic _ _], ez => cases ez
  | [.clo _ _], ez => cases ez
  | [_, _], ez => cases ez
  | _ :: _ :: _ :: _, ez => cases ez
end
end Mp
end
section
/-! Mp: the compiler: ranges as lists, tuples; all, any. -/
namespace Mp
open PySem PySem.Spec
                                                                                                    PyProof.Rows L2

section
variable {gi : Gi} {W : Wp} {Γ : Gam} {K0 : Nat}
def eRg (ct : Ct) (f : ∀ e, CE gi W Γ K0 ct e) (x y : Str) (p py pos pos0 : Pos) : ∀ es, CE gi W Γ K0 ct (.Call (.Name x p) [.Call (.Name y py) es [] pos] [] pos0)
  | [a] => if h : (glbB ct.sc x && gi.blt.contains x && (glbB ct.sc y && gi.blt.contains y && decide (y = "range")) && noStar [a]) = true then
      if hx : x = "tuple" then ⟨.rgc true [(f a).t], fun E X o => by
        simp only [Bool.and_eq_true,
                                                                                                    decide_eq_true_eq] at h
        obtain ⟨⟨⟨h1, h2⟩, ⟨h3, h4⟩, h5⟩, h6⟩ := h
        subst hx h5
        exact r_rgt1 o.calm (o.gl h1) (o.blt _ (List.contains_iff_mem.mp h2)) (o.gl h3) (o.blt _ (List.contains_iff_mem.mp h4)) ((f a).ok E X o) (star_one (env := X.env) h6).1 rfl⟩
      else if hx : x = "list" then ⟨.rgc false [(f a).t], fun E X o => by
        simp only [Bool.and_eq_true,
                                                                                                    decide_eq_true_eq] at h
        obtain ⟨⟨⟨h1, h2⟩, ⟨h3, h4⟩, h5⟩, h6⟩ := h
        subst hx h5
        exact r_rgl1 o.calm (o.gl h1) (o.blt _ (List.contains_iff_mem.mp h2)) (o.gl h3) (o.blt _ (List.contains_iff_mem.mp h4)) ((f a).ok E X o) (star_one (env := X.env) h6).1 rfl⟩
      else neverE
    else neverE
  | [a, b] => if h : (glbB ct.sc x && gi.blt.contains x && (glbB ct.sc y && gi.blt.contains y && decide (y = "range")) && noStar [a, b]) = true then
      if hx : x = "tuple" then ⟨.rgc true [(f a).t, (f b).t], fun E X o => by
        simp only [Bool.and_eq_true,
                                                                                                    decide_eq_true_eq] at h
        obtain ⟨⟨⟨h1, h2⟩, ⟨h3, h4⟩, h5⟩, h6⟩ := h
        subst hx h5
        obtain ⟨s1, s2⟩ := star_one (env := X.env) h6
        exact r_rgt2 o.calm (o.gl h1) (o.blt _ (List.contains_iff_mem.mp h2)) (o.gl h3) (o.blt _ (List.contains_iff_mem.mp h4)) ((f a).ok E X o) ((f b).ok E X o) s1 (star_one (env := X.env) s2).1 (star_any s2) rfl⟩
      else if hx : x = "list" then ⟨.rgc false [(f a).t, (f b).t], fun E X o => by
        simp only [Bool.and_eq_true,
                                                                                                    decide_eq_true_eq] at h
        obtain ⟨⟨⟨h1, h2⟩, ⟨h3, h4⟩, h5⟩, h6⟩ := h
        subst hx h5
        obtain ⟨s1, s2⟩ := star_one (env := X.env) h6
        exact r_rgl2 o.calm (o.gl h1) (o.blt _ (List.contains_iff_mem.mp h2)) (o.gl h3) (o.blt _ (List.contains_iff_mem.mp h4)) ((f a).ok E X o) ((f b).ok E X o) s1 (star_one (env := X.env) s2).1 (star_any s2) rfl⟩
      else neverE
    else neverE
  | _ => neverE
def eSrts (ct : Ct) (x y : Str) (p py pos pos0 : Pos) {a : Expr} (A : CE gi W Γ K0 ct a) : CE gi W Γ K0 ct (.Call (.Name x p) [.Call (.Name y py) [a] [] pos] [] pos0) :=
  if h : (glbB ct.sc x && gi.blt.contains x && decide (x = "sorted") && (glbB ct.sc y && gi.blt.contains y && decide (y = "set")) && noStar [a]) = true then ⟨.bi .srts [A.t], fun E X o => by
    simp only [Bool.and_eq_true,
                                                                                                    decide_eq_true_eq] at h
    obtain ⟨⟨⟨⟨h1, h2⟩, h7⟩, ⟨h3, h4⟩, h5⟩, h6⟩ := h
    subst h7 h5
    exact r_srts o.calm (by have := o.room.r.un; omega) (o.gl h1) (o.blt _ (List.contains_iff_mem.mp h2)) (o.gl h3) (o.blt _ (List.contains_iff_mem.mp h4)) (A.ok E X o) h6⟩
  else neverE
/-- what all, any ask -/
theorem gen_r {ct : Ct} {X : Cx} {E : XK} {elt tg iter : Expr} {gs : Scope} (o : Ok gi W Γ K0 ct X) (I : CI gi W Γ K0 ct tg iter) (Gt : CG gi W Γ K0 (ctG ct gs) tg) (A : CE gi W Γ K0 (ctG ct gs) elt)
    (h : (noDisp iter && genB ct.N ct.sc gs (ownOf ct.N Gt.g) && decide (3 ≤ ct.d) && ct.code) = true) : ∃ c P, GenR X W Γ E (K0 + ct.d - 1) c P elt tg iter gs (ownOf ct.N Gt.g) Gt.g I.k I.ts A.t := by
  simp only [Bool.and_eq_true,
                                                                                                    decide_eq_true_eq] at h
  obtain ⟨⟨⟨h1, h2⟩, h3⟩, h4⟩ :=
                                                                                                    h
  obtain ⟨c, P, TB, hcode, hP, hPl⟩ := o.code h4
  have go := genOk_by h2
  rw [← o.N, ← o.sc] at go
  have r := o.room
  rw [show K0 + ct.d = K0 + ct.d - 1 + 1 from by omega] at r
  rw [o.N] at go
  refine ⟨c, P, o.calm, o.nd, r, TB, hcode, hP, hPl, by rw [o.N]; exact go, ownOf_ix, I.ok E X o, gf_pure h1, fun s H C code fp => Gt.ok _ (gen_ok o h3 gs s H C code fp), fun s H C code fp => A.ok _ _ (gen_ok o h3 gs s H C code fp)⟩
def quOf (x : Str) : Option Bool := if x = "all" then some true else if x = "any" then some false else none
theorem qu_boot {x : Str} {al : Bool} (h : quOf x = some al) : bootBuiltins x = some (.builtin (if al then "all" else "any")) := by
  unfold quOf at h
  split at h
  · rename_i e; cases h; subst e; decide +kernel
  split at h
  · rename_i e; cases h; subst e; decide +kernel
  cases h
def eQu (ct : Ct) (x : Str) (p0 gpos pos : Pos) {elt tg iter : Expr} (gs : Scope) (I : CI gi W Γ K0 ct tg iter) (Gt : CG gi W Γ K0 (ctG ct gs) tg) (A : CE gi W Γ K0 (ctG ct gs) elt) : CE gi W Γ K0 ct (.Call (.Name x p0) [.GeneratorExp elt [⟨tg, iter, [], 0⟩] gs gpos] [] pos) :=
  match hq : quOf x with
  | none => neverE
  | some al => if h : ((glbB ct.sc x && gi.blt.contains x && okN x) && (noDisp iter && genB ct.N ct.sc gs (ownOf ct.N Gt.g) && decide (3 ≤ ct.d) && ct.code)) = true then
      ⟨.aal al Gt.g I.k I.ts A.t, fun E X o => by
        obtain ⟨h1, h2⟩ := (Bool.and_eq_true ..).mp h
        simp only [Bool.and_eq_true]
                                                                                                    at h1
        obtain ⟨c, P, R⟩ := gen_r (E := E) o I Gt A h2
        exact r_qu R rfl (o.gl h1.1.1) (o.blt _ (List.contains_iff_mem.mp h1.1.2)) (qu_boot hq) (okN_of h1.2).ne (okN_of h1.2).db⟩
    else neverE
end
end Mp
end
section
/-! Mp: a dict comprehension stored at once. -/
namespace Mp
open PySem PySem.Spec
                                                                                                    PyProof.Rows L2

section
variable {X : Cx} {W : Wp} {Γ : Gam} {E : XK} {kx vx tg iter : Expr} {scope : Scope} {own : List (Str × Nat)} {pos py spos : Pos} {y : Str} {i : Nat}
theorem ps_setDc {wi : TI} {g : TG} {tt : TT} {tk tv : TE} (hc : X.calm = true) (nd : X.N.Nodup) (ny : X.N[i]? = some y) (ly : X.env.scope.names.lookup y = some .local)
    (sw : swapsWith (.DictComp kx vx [⟨tg, iter, [], 0⟩] scope pos) (some (.Name y py)) spos.line X.env = pure true) (pi : PI X tg iter wi) (bo : BlkOk X.N X.env.scope scope own)
    (pg : ∀ (t : Shared) (F : Hp) (C : Addr) (cl : List (Str × Addr)) (fp : List Addr), PG (X.blk t F scope (compEnvC scope cl C X.env) fp) tg g)
    (pt : ∀ (t : Shared) (F : Hp) (C : Addr) (cl : List (Str × Addr)) (fp : List Addr), PTs (X.blk t F scope (compEnvC scope cl C X.env) fp) [] tt)
    (pk : ∀ (t : Shared) (F : Hp) (C : Addr) (cl : List (Str × Addr)) (fp : List Addr), PE (X.blk t F scope (compEnvC scope cl C X.env) fp) kx tk)
    (pv : ∀ (t : Shared) (F : Hp) (C : Addr) (cl : List (Str × Addr)) (fp : List Addr), PE (X.blk t F scope (compEnvC scope cl C X.env) fp) vx tv) (fs : ∀ x, foldedSetIterable iter X.env x = pure x) :
    PS X (.Assign [.Name y py] (.DictComp kx vx [⟨tg, iter, [], 0⟩] scope pos) spos) (tAsg (tDc wi g tt tk tv (own.map (·.2))) (gName i)) := by
  refine ⟨fun pins s σ H En I h => ?_⟩
  rw [exec_Assign_Name_used _ _ _ _ sw]
  refine wpAny_bind
                                                                                                    (wpAny_standAt (wpAny_bind ?_))
  show wpAny _ X.A (do let _ ← comprehension (.DictComp kx vx [⟨tg, iter, [], 0⟩] scope pos) scope X.env (firstIterPos [⟨tg, iter, [], 0⟩] pos) newDict false (eval iter X.env) (some (assign (.Name y py) X.env))) _ _ s
  have h1 : tDc wi g tt tk tv (own.map (·.2)) σ H (fun x F => gName i x σ F En.nx) := h
  refine wpAny_bind (thn (dc_core (Qf := fun _ t => SP X pins En .next t) hc nd I pi bo pg pt pk pv fs h1 fun L C t m F J q hn f => ?_) fun _ t hq => wpAny_pure (wpAny_pure hq))
  show wpAny _ _
                                                                                                    (assign (.Name y py) X.env (.ref L)) _ _ _
  refine wpAny_assign_Name (store_ok2 (v := V.ref L) J nd ny (.inl ly) rfl (fun s2 I2 ⟨a, sb, ha⟩ => ?_) (.inr ly))
  obtain ⟨f0, f1, f2, f3, f4, f5⟩ :=
                                                                                                    f
  have ne : C ≠ a := ha.elim (fun z => by rw [z]; exact f1) fun z e => f4 y a z e.symm
  exact ⟨m, hn.sameBut sb ne, fun h3 sb3 => ⟨_, F, I2.turned (t' := s2.toks) (fun b o hb e => (sb3.2 b hb).trans e) f0 f1 f3 f4 f5, q⟩⟩
theorem s_setDc {g : G} {k : IK} {its : List T} {ck cv : T} (hc : X.calm = true) (nd : X.N.Nodup) (ny : X.N[i]? = some y) (ly : X.env.scope.names.lookup y = some .local)
    (sw : swapsWith (.DictComp kx vx [⟨tg, iter, [], 0⟩] scope pos) (some (.Name y py)) spos.line X.env = pure true) (pi : PI X tg iter (iX W Γ k its E)) (bo : BlkOk X.N X.env.scope scope own) (ho : own.map (·.2) = slotsG g)
    (pg : ∀ (t : Shared) (F : Hp) (C : Addr) (cl : List (Str × Addr)) (fp : List Addr), PG (X.blk t F scope (compEnvC scope cl C X.env) fp) tg (tG W g))
    (pk : ∀ (t : Shared) (F : Hp) (C : Addr) (cl : List (Str × Addr)) (fp : List Addr), PE (X.blk t F scope (compEnvC scope cl C X.env) fp) kx (tE W Γ ck E0))
    (pv : ∀ (t : Shared) (F : Hp) (C : Addr) (cl : List (Str × Addr)) (fp : List Addr), PE (X.blk t F scope (compEnvC scope cl C X.env) fp) vx (tE W Γ cv E0)) (fs : ∀ x, foldedSetIterable iter X.env x = pure x) :
    PS X (.Assign [.Name y py] (.DictComp kx vx [⟨tg, iter, [], 0⟩] scope pos) spos) (tS W Γ (.asg (.nm i) (.dc g k its ck cv)) E) :=
  ⟨fun pins s σ H En I ⟨n, ow, ρ, st, h, f⟩ => (ps_setDc hc nd ny ly sw pi bo pg (fun _ _ _ _ _ => ts_nil) pk pv fs).run pins s σ H En I (by
    obtain ⟨q, st', a, fin⟩ : tE W Γ (.dc g k its ck cv) E σ H (fun v H1 => En.nx (σ.set i (some v)) H1) := h.ask f fun d st1 H1 v g w r f1 => by
      obtain ⟨ow', h', _⟩ := h.store (i := i) g w r
      exact f1 ow' _ H1 h'
    exact dc_turns ho a fin)⟩
/-- a dict comprehension's store to a name -/
theorem sw_dict {gs : List Comprehension} {p : Pos} {x : Str} {l : Nat} {env : PySem.Env} (hk : env.scope.kind = .function) : swapsWith (.DictComp kx vx gs scope pos) (some (.Name x p)) l env = swapsWith (.ListComp kx gs scope pos) (some (.Name x p)) l env := rfl
end
end Mp
end
section
/-! Mp: the compiler: stores to tuples, of comprehensions, two at once. -/
namespace Mp
open PySem PySem.Spec
                                                                                                    PyProof.Rows L2

theorem sole_none {t e : Expr} {l : Nat} {env : PySem.Env} (h : noComp e = true) : swapsWithSole [t] e l env = pure false := by
  show swapsWith e (some t) l env = pure false
  exact sw_none h
theorem swN_local {sc cs : Scope} {x : Str} {l m : Nat} (h : swN sc cs x l m = true) : sc.names.lookup x = some .local := by
  unfold swN at h
  simp only [Bool.and_eq_true,
                                                                                                    decide_eq_true_eq] at h
  exact h.1.1
theorem ss_cell {x y : Str} {px py pt : Pos} {k k2 : Nat} {pt2 : Pos} {a b : Expr} {env : PySem.Env} (hk : env.scope.kind = .function) (hx : ¬ (env.scope.names.lookup x = some .local ∧ env.scope.names.lookup y = some .local)) (h : noStar [a, b] = true) :
    swappedStores [.Tuple [.Name x px, .Name y py] k pt] (.Tuple [a, b] k2 pt2) env = pure none := by
  have hb : env.blockKind = ScopeKind.function := by
    unfold Env.blockKind
    rw [hk]
    rfl
  have h4 := (star_one (env := env) h).2
  unfold swappedStores
  by_cases e1 : env.kindOf x = some .local
  · have e2 : ¬ env.kindOf y = some .local := fun z => hx ⟨e1, z⟩
    by_cases hl : py.line = px.line <;> simp [hb, hl, e1, e2, Expr.pos, List.filterMap]
  · by_cases e2 : env.kindOf y = some .local
    · by_cases hl : py.line = px.line <;> simp [hb, hl, e1, e2, Expr.pos, List.filterMap]
    · simp [hb, e1, e2, Expr.pos, List.filterMap]
section
variable {gi : Gi} {W : Wp} {Γ : Gam} {K0 : Nat}
def sTup (ct : Ct) {ts : List Expr} {k : Nat} {p : Pos} {e : Expr} (pos : Pos) (Gt : CG gi W Γ K0 ct (.Tuple ts k p)) (A : CE gi W Γ K0 ct e) : CS gi W Γ K0 ct (.Assign [.Tuple ts k p] e pos) :=
  if h : (noTupE e && noComp e) = true then
    match hg : Gt.g with
    | .nm _ => neverS
    | .tp gs => ⟨.asg (.tp gs) A.t, fun E X o => by
      obtain ⟨h1, h2⟩ := (Bool.and_eq_true ..).mp h
      have G := Gt.ok X o
      rw [hg] at G
      exact s_tup (A.ok E X o) G (sole_none h2) (ss_none h1) rfl⟩
  else neverS
/-- two at once, stored as a tuple -/
def sTup2 (ct : Ct) {x y : Str} {px py p pt2 : Pos} {k k2 : Nat} {a b : Expr} (pos : Pos) (Gt : CG gi W Γ K0 ct (.Tuple [.Name x px, .Name y py] k p)) (A : CE gi W Γ K0 ct (.Tuple [a, b] k2 pt2)) : CS gi W Γ K0 ct (.Assign [.Tuple [.Name x px, .Name y py] k p] (.Tuple [a, b] k2 pt2) pos) :=
  if h : (decide (ct.sc.kind = .function) && !(decide (ct.sc.names.lookup x = some .local) && decide (ct.sc.names.lookup y = some .local)) && noStar [a, b]) = true then
    match hg : Gt.g with
    | .nm _ => neverS
    | .tp gs => ⟨.asg (.tp gs) A.t, fun E X o => by
      have h0 := (Bool.and_eq_true ..).mp h
      have h1 := (Bool.and_eq_true ..).mp h0.1
      have G := Gt.ok X o
      rw [hg] at G
      exact s_tup (A.ok E X o) G (sole_none rfl) (ss_cell (by rw [o.sc]; exact of_decide_eq_true h1.1) (by
        rw [o.sc]
        intro z
        have := h1.2
        simp [z.1, z.2] at this) h0.2) rfl⟩
  else neverS
def sSetLc (ct : Ct) (y : Str) (py : Pos) {elt tg iter : Expr} {ifs : List Expr} (cs : Scope) (pos spos : Pos) (I : CI gi W Γ K0 ct tg iter) (Gt : CG gi W Γ K0 (ctB ct cs) tg) (F : CIf gi W Γ K0 (ctB ct cs) ifs) (A : CE gi W Γ K0 (ctB ct cs) elt) :
    CS gi W Γ K0 ct (.Assign [.Name y py] (.ListComp elt [⟨tg, iter, ifs, 0⟩] cs pos) spos) :=
  match hs : slotOf y ct.N with
  | none => neverS
  | some i => if h : (decide (ct.sc.kind = .function) && (locB ct.sc y && (ct.fn || decide (ct.sc.names.lookup y = some .local))) && (noSet iter && blkC ct.N ct.sc cs (ownOf ct.N Gt.g))) = true then
      ⟨.asg (.nm i) (.lc Gt.g I.k I.ts F.t A.t), fun E X o => by
        obtain ⟨h0, h3⟩ := (Bool.and_eq_true ..).mp h
        obtain ⟨h1, h2⟩ := (Bool.and_eq_true ..).mp h0
        obtain ⟨h4, h5⟩ := (Bool.and_eq_true ..).mp h3
        have bo := blkOk_by h5
        rw [← o.N, ← o.sc] at bo
        have hk : X.env.scope.kind = .function := by rw [o.sc]; exact of_decide_eq_true h1
        have hl : Loc X.env.scope y := by rw [o.sc]; exact loc_of ((Bool.and_eq_true ..).mp h2).1
        have hf := store_fn o ((Bool.and_eq_true ..).mp h2).2
        have hy : X.N[i]? = some y := by rw [o.N]; exact slot_at hs
        cases hw : swN X.env.scope cs y py.line pos.line with
        | true => exact s_setLc o.calm o.nd hy (swN_local hw) (by rw [sw_name hk, hw]) (I.ok E X o) bo ownOf_ix (fun s H C cl fp => Gt.ok _ (blk_ok o cs s H C cl fp)) (fun s H C cl fp => F.ok _ _ (blk_ok o cs s H C cl fp)) (fun s H C cl fp => A.ok _ _ (blk_ok o cs s H C cl fp)) (fs_pure h4)
        | false => exact s_set o.nd hy hl (r_lc o.calm o.nd (I.ok E X o) bo ownOf_ix (fun s H C cl fp => Gt.ok _ (blk_ok o cs s H C cl fp)) (fun s H C cl fp => F.ok _ _ (blk_ok o cs s H C cl fp)) (fun s H C cl fp => A.ok _ _ (blk_ok o cs s H C cl fp)) (fs_pure h4)) (by rw [sw_name hk, hw]) hf⟩
    else neverS
def sSetDc (ct : Ct) (y : Str) (py : Pos) {kx vx tg iter : Expr} (cs : Scope) (pos spos : Pos) (I : CI gi W Γ K0 ct tg iter) (Gt : CG gi W Γ K0 (ctB ct cs) tg) (A : CE gi W Γ K0 (ctB ct cs) kx) (B : CE gi W Γ K0 (ctB ct cs) vx) :
    CS gi W Γ K0 ct (.Assign [.Name y py] (.DictComp kx vx [⟨tg, iter, [], 0⟩] cs pos) spos) :=
  match hs : slotOf y ct.N with
  | none => neverS
  | some i => if h : (decide (ct.sc.kind = .function) && (locB ct.sc y && (ct.fn || decide (ct.sc.names.lookup y = some .local))) && (noSet iter && blkC ct.N ct.sc cs (ownOf ct.N Gt.g))) = true then
      ⟨.asg (.nm i) (.dc Gt.g I.k I.ts A.t B.t), fun E X o => by
        obtain ⟨h0, h3⟩ := (Bool.and_eq_true ..).mp h
        obtain ⟨h1, h2⟩ := (Bool.and_eq_true ..).mp h0
        obtain ⟨h4, h5⟩ := (Bool.and_eq_true ..).mp h3
        have bo := blkOk_by h5
        rw [← o.N, ← o.sc] at bo
        have hk : X.env.scope.kind = .function := by rw [o.sc]; exact of_decide_eq_true h1
        have hl : Loc X.env.scope y := by rw [o.sc]; exact loc_of ((Bool.and_eq_true ..).mp h2).1
        have hf := store_fn o ((Bool.and_eq_true ..).mp h2).2
        have hy : X.N[i]? = some y := by rw [o.N]; exact slot_at hs
        cases hw : swN X.env.scope cs y py.line pos.line with
        | true => exact s_setDc o.calm o.nd hy (swN_local hw) (by rw [sw_dict hk, sw_name hk, hw]) (I.ok E X o) bo ownOf_ix (fun s H C cl fp => Gt.ok _ (blk_ok o cs s H C cl fp)) (fun s H C cl fp => A.ok _ _ (blk_ok o cs s H C cl fp)) (fun s H C cl fp => B.ok _ _ (blk_ok o cs s H C cl fp)) (fs_pure h4)
        | false => exact s_set o.nd hy hl (r_dc o.calm o.nd (I.ok E X o) bo ownOf_ix (fun s H C cl fp => Gt.ok _ (blk_ok o cs s H C cl fp)) (fun s H C cl fp => A.ok _ _ (blk_ok o cs s H C cl fp)) (fun s H C cl fp => B.ok _ _ (blk_ok o cs s H C cl fp)) (fs_pure h4)) (by rw [sw_dict hk, sw_name hk, hw]) hf⟩
    else neverS
def sPar (ct : Ct) (x y : Str) (px py pt pt2 pos : Pos) (kt k2 : Nat) {a b : Expr} (A : CE gi W Γ K0 ct a) (B : CE gi W Γ K0 ct b) : CS gi W Γ K0 ct (.Assign [.Tuple [.Name x px, .Name y py] kt pt] (.Tuple [a, b] k2 pt2) pos) :=
  match hs : slotOf x ct.N, ht : slotOf y ct.N with
  | some i, some j => if h : (decide (ct.sc.kind = .function) && decide (ct.sc.names.lookup x = some .local) && decide (ct.sc.names.lookup y = some .local) && decide (py.line = px.line) && !decide (x = y) && par2 a b) = true then
      ⟨.par i j A.t B.t, fun E X o => by
        simp only [Bool.and_eq_true, decide_eq_true_eq, Bool.not_eq_true', decide_eq_false_iff_not] at h
        obtain ⟨⟨⟨⟨⟨h1, h2⟩, h3⟩, h4⟩, h5⟩, h6⟩ := h
        have hk : X.env.scope.kind = .function := by rw [o.sc]; exact h1
        have hx : X.env.scope.names.lookup x = some .local := by rw [o.sc]; exact h2
        have hy : X.env.scope.names.lookup y = some .local := by rw [o.sc]; exact h3
        have ni : X.N[i]? = some x := by rw [o.N]; exact slot_at hs
        have nj : X.N[j]? = some y := by rw [o.N]; exact slot_at ht
        have hp : noStar [a, b] = true := by
          unfold par2 at h6
          exact ((Bool.and_eq_true ..).mp h6).2
        obtain ⟨s1, s2⟩ := star_one (env := X.env) hp
        exact s_par o.calm o.nd ni nj (fun z => h5 (by subst z; rw [ni] at nj; exact Option.some.inj nj)) hx hy (A.ok E X o) (B.ok E X o) s1 (star_one (env := X.env) s2).1 (ss_two hk hx hy h4 h5 h6) (sole_none rfl)⟩
    else neverS
  | _, _ => neverS
end
end Mp
end
section
/-! Mp: the draws' state, read and written. -/
namespace Mp
open PySem PySem.Spec
                                                                                                    PyProof.Rows L2

theorem isSt_some {ρ : Env} {j : Nat} {u : Unit} (h : isSt ρ j = some u) : getE ρ j = some .st := by
  unfold isSt at h
  split at h
  · assumption
  · cases h
theorem getS_ok1 {f : S → Option D} {st : S} {W : Wp} {q : Sit} {E : XK} {P : D → Hp → Prop} {H : Hp} (h : Fin W q E P (getS f st) H) : ∃ d, f st = some d ∧ Fin W q E P (ret d st) H := by
  unfold getS at h
  cases e : f st with
  | none =>
    rw [e] at h
    exact h.elim
  | some d =>
    rw [e] at h
    exact ⟨d, rfl, h⟩
theorem atI_map {α β : Type} {f : α → β} {l : List α} {i : Int} : atI (l.map f) i = (atI l i).map f := by
  unfold atI
  rw [List.length_map]
  cases ixN l.length i with
  | none => rfl
  | some j =>
    show (l.map f)[j]? = (l[j]?).map f
    rw [List.getElem?_map]
theorem kne1 : ¬ kS "cells" = kS "at" := by decide +kernel
theorem kne2 : ¬ kS "lefts" = kS "at" := by decide +kernel
theorem kne3 : ¬ kS "cells" = kS "lefts" := by decide +kernel
section
variable {W : Wp} {Z : Zp} {st : S} {H : Hp}
theorem val_at (w : Wld W Z st H) : DGet H Z.aS (.str "at") (some (.int st.at_)) :=
  .inl ⟨_, kS "at", .inl w.s, rfl, by
    unfold valV
    rw [List.find?_cons_of_neg (by simpa using kne1), List.find?_cons_of_neg (by simpa using kne2), List.find?_cons_of_pos (by simp)]
    rfl⟩
theorem val_cells (w : Wld W Z st H) : DGet H Z.aS (.str "cells") (some (.ref Z.aC)) := .inl ⟨_, kS "cells", .inl w.s, rfl, by simp [valV]⟩
theorem val_lefts (w : Wld W Z st H) : DGet H Z.aS (.str "lefts") (some (.ref Z.aL)) := .inl ⟨_, kS "lefts", .inl w.s, rfl, by
    unfold valV
    rw [List.find?_cons_of_neg (by simpa using kne3), List.find?_cons_of_pos (by simp)]
    rfl⟩
theorem Wld.neC (w : Wld W Z st H) : Z.aS ≠ Z.aC := fun z => by
  have a := w.s
  rw [z, w.c] at a
  cases a
theorem Wld.neL (w : Wld W Z st H) : Z.aS ≠ Z.aL := fun z => by
  have a := w.s
  rw [z, w.l] at a
  cases a
/-- the tables stay, where a list or a dict changes -/
theorem tabs_upd {a : Addr} {o : HO} (w : Wld W Z st H) (h : (∃ xs, H a = some (.lst xs)) ∨ ∃ kvs, H a = some (.dK kvs)) : (∀ P ∈ W.tabs, TabOk (upd H a o) P) ∧ LamX.Tabs W.ltabs (upd H a o) := by
  have ne : ∀ {b : Addr} {u : HO}, H b = some u → (∀ xs, u ≠ .lst xs) → (∀ kvs, u ≠ .dK kvs) → upd H a o b = some u := fun {b u} e n1 n2 => by
    rw [upd_ne]
    · exact e
    · rintro rfl
      rcases h with ⟨xs, z⟩ | ⟨kvs, z⟩
      · rw [e] at z
        exact n1 xs (Option.some.inj z)
      · rw [e] at z
        exact n2 kvs (Option.some.inj z)
  refine ⟨fun P hP => ?_, fun p hp => ?_⟩
  · obtain ⟨ps, e, r⟩ := w.t P hP
    exact ⟨ps, ne e (fun _ z => (by cases z)) (fun _ z => (by cases z)), r⟩
  · obtain ⟨ps, e, r, k⟩ := w.lt p hp
    refine ⟨ps, ne e (fun _ z => (by cases z)) (fun _ z => (by cases z)), r, fun pos cv hc => ?_⟩
    obtain ⟨c, e1, e2⟩ := k pos cv hc
    exact ⟨c, e1, ne e2 (fun _ z => (by cases z)) (fun _ z => (by cases z))⟩
theorem grow_st {a : Addr} {o : HO} (h : a = Z.aS ∨ a = Z.aL) : Grow Z H (upd H a o) :=
  ⟨fun b u e h1 h2 _ => by rw [upd_ne (h.elim (fun z => z ▸ h1) fun z => z ▸ h2)]; exact e, fun b hb => by
    by_cases e : b = a
    · rw [e, upd_same]
      simp
    · rw [upd_ne e]
      exact hb⟩
/-- at moves -/
theorem Wld.moved (w : Wld W Z st H) {i : Int} (hi : 0 ≤ i) : Wld W Z { st with at_ := i } (upd H Z.aS (.dK [(kS "cells", .ref Z.aC), (kS "lefts", .ref Z.aL), (kS "at", .int i)])) := by
  obtain ⟨t1, t2⟩ := tabs_upd (o := .dK [(kS "cells", .ref Z.aC), (kS "lefts", .ref Z.aL), (kS "at", .int i)]) w (.inr ⟨_, w.s⟩)
  exact ⟨upd_same, by rw [upd_ne (Ne.symm w.neC)]; exact w.c, by rw [upd_ne (Ne.symm w.neL)]; exact w.l, w.len, w.pos, w.few, hi, t1, t2⟩
/-- lefts change; cells stand elsewhere -/
theorem Wld.left (w : Wld W Z st H) {ls : List Int} (hl : ls.length = st.lefts.length) : Wld W Z { st with lefts := ls } (upd H Z.aL (.lst (ls.map V.int))) := by
  obtain ⟨t1, t2⟩ := tabs_upd (o := .lst (ls.map V.int)) w (.inl ⟨_, w.l⟩)
  exact ⟨by rw [upd_ne w.neL]; exact w.s, by rw [upd_ne Z.ne]; exact w.c, upd_same, hl.trans w.len, w.pos, w.few, w.at0, t1, t2⟩
end
end Mp
end
section
/-! Mp: expressions and statements of the draws' state. -/
namespace Mp
open PySem PySem.Spec
                                                                                                    PyProof.Rows L2

/-- the key of a list of the state -/
def stK (c : Bool) : Str := if c then "cells" else "lefts"
section
variable {X : Cx} {W : Wp} {Γ : Gam} {E : XK} {y : Str} {p p0 p2 p3 pos : Pos} {k : Nat} {j : Nat} {e i : Expr} {A B : T}
theorem st_var {q : Sit} {st : S} {vs : List Nat} {σ : L2.St} {H : Hp} (h : At W q st vs σ H) (hj : j ∈ vs) {u : Unit} (g : isSt q.ρ j = some u) : σ[j]? = some (some (.ref q.Z.aS)) := by
  obtain ⟨v, e1, r⟩ := h.see j hj _ (isSt_some g)
  have : v = .ref q.Z.aS := r
  rw [e1, this]
theorem r_stA (hu : X.A.units + 1 < cLine) (hN : X.N[j]? = some y) (hv : Vis X.env.scope y) (hd : (y == ("__debug__" : Str)) = false) (hcd : (y == ("__classdict__" : Str)) = false) : PE X (.Subscript (.Name y p) (.Constant (.str "at") k p2) pos) (tE W Γ (.stA j) E) :=
  (pe_dget hu (pe_var hN hv hd hcd) pe_str fun _ _ => rfl).imp fun σ H Q ⟨q, st, h, f⟩ => by
    obtain ⟨u, e1, f⟩ := Fin.ofO f
    obtain ⟨d, e2, f⟩ := getS_ok1 f
    cases e2
    exact ⟨_, st_var h (by simp [vars]) e1, q.Z.aS, _, rfl, val_at h.w, f.ret (.refl _ _) h.w _ (.nl rfl rfl)⟩
theorem r_stN (hu : X.A.units + 1 < cLine) (hg : Gl X "len") (hm : X.mg "len" = none) (hN : X.N[j]? = some y) (hv : Vis X.env.scope y) (hd : (y == ("__debug__" : Str)) = false) (hcd : (y == ("__classdict__" : Str)) = false) :
    PE X (.Call (.Name "len" p0) [.Subscript (.Name y p) (.Constant (.str "cells") k p2) p3] [] pos) (tE W Γ (.stN j) E) :=
  (pe_callB call_len_seq hg hm (by decide +kernel) (pa_cons (pe_dget hu (pe_var hN hv hd hcd) pe_str fun _ _ => rfl) pa_nil rfl)).imp fun σ H Q ⟨q, st, h, f⟩ => by
    obtain ⟨u, e1, f⟩ := Fin.ofO f
    obtain ⟨d, e2, f⟩ := getS_ok1 f
    cases e2
    refine ⟨_, st_var h (by simp [vars]) e1, q.Z.aS, _, rfl, val_cells h.w, q.Z.aC, st.cells.map V.int, rfl, .inl (SqL.of h.w.c), ?_⟩
    rw [List.length_map]
    exact f.ret (.refl _ _) h.w _ (.nl rfl rfl)
theorem val_k {Z : Zp} {st : S} {H : Hp} (w : Wld W Z st H) (c : Bool) : DGet H Z.aS (.str (stK c)) (some (.ref (if c then Z.aC else Z.aL))) ∧ H (if c then Z.aC else Z.aL) = some (.lst ((if c then st.cells else st.lefts).map V.int)) := by
  cases c with
  | true => exact ⟨val_cells w, w.c⟩
  | false => exact ⟨val_lefts w, w.l⟩
theorem intD_of {d : D} {z : Int} (h : intD d = some z) : d = .int z := by
  cases d <;> simp [intD] at h
  rw [h]
theorem r_stI (c : Bool) (hu : X.A.units + 1 < cLine) (hN : X.N[j]? = some y) (hv : Vis X.env.scope y) (hd : (y == ("__debug__" : Str)) = false) (hcd : (y == ("__classdict__" : Str)) = false) (he : PE X e (tE W Γ A E)) (hs : PlainIx e) :
    PE X (.Subscript (.Subscript (.Name y p) (.Constant (.str (stK c)) k p2) p3) e pos) (tE W Γ (.stI c j A) E) :=
  (pe_ix ix_list (pe_dget hu (pe_var hN hv hd hcd) pe_str fun _ _ => rfl) he hs).imp fun σ H Q ⟨q, st, h, f⟩ => by
    obtain ⟨u, e1, f⟩ := Fin.ofO f
    refine ⟨_, st_var h (by simp [vars]) e1, q.Z.aS, _, rfl, (val_k h.w c).1, ?_⟩
    refine one (h.sub fun i hi => by simp [vars, hi]) f fun d st' H' x a' g r f0 => ?_
    obtain ⟨z, e2, f1⟩ := f0.ofO
    obtain ⟨d', e3, f2⟩ := getS_ok1 f1
    obtain ⟨m, e4, rfl⟩ := Option.map_eq_some_iff.mp e3
    obtain rfl := intD_of e2
    have ex : x = .int z := r.rep
    exact ⟨_, _, z, .int m, rfl, ex, SqL.of (val_k a'.w c).2, by rw [atI_map, e4]; rfl, f2.ret (.refl _ _) a'.w _ (.nl rfl rfl)⟩
/-! ### statements -/
theorem FinC.ofO {α : Type} {n : Ent} {En : Ends} {o : Option α} {f : α → M Out} {st : S} (h : FinC W n E En (bnd (ofO o) f st)) : ∃ a, o = some a ∧ FinC W n E En (f a st) := by
  cases o with
  | none => exact h.elim
  | some a => exact ⟨a, rfl, h⟩
theorem FinC.putS {n : Ent} {En : Ends} {g : S → Option S} {f : Unit → M Out} {st : S} (h : FinC W n E En (bnd (Mp.putS g) f st)) : ∃ s', g st = some s' ∧ FinC W n E En (f () s') := by
  unfold bnd Mp.putS at h
  cases e : g st with
  | none =>
    rw [e] at h
    exact h.elim
  | some s' =>
    rw [e] at h
    exact ⟨s', rfl, h⟩
theorem sne1 : ¬ (("cells" : Str) = "at") := by decide +kernel
theorem sne2 : ¬ (("lefts" : Str) = "at") := by decide +kernel
theorem put_at {Z : Zp} {a : Int} {v : V} : putK [(kS "cells", V.ref Z.aC), (kS "lefts", .ref Z.aL), (kS "at", .int a)] (kS "at") v = [(kS "cells", .ref Z.aC), (kS "lefts", .ref Z.aL), (kS "at", v)] := by
  simp [putK, sne1, sne2]
theorem s_stAt (hu : X.A.units + 1 < cLine) (hN : X.N[j]? = some y) (hv : Vis X.env.scope y) (hd : (y == ("__debug__" : Str)) = false) (hcd : (y == ("__classdict__" : Str)) = false) (he : PE X e (tE W Γ A E))
    (hs : swapsWith e (some (.Subscript (.Name y p) (.Constant (.str "at") k p2) p3)) pos.line X.env = pure false) : PS X (.Assign [.Subscript (.Name y p) (.Constant (.str "at") k p2) p3] e pos) (tS W Γ (.stAt j A) E) :=
  ⟨fun pins s σ H En I ⟨n, ow, ρ, st, h, f⟩ => (ps_dput hu (pe_var hN hv hd hcd) (pe_str (x := "at")) he hs).run pins s σ H En I (h.ask f fun d st1 H1 v g w r f1 => by
    obtain ⟨u, e1, f1⟩ := f1.ofO
    obtain ⟨z, e2, f1⟩ := f1.ofO
    obtain ⟨s', e3, f1⟩ := f1.putS
    obtain rfl := intD_of e2
    split at e3
    next hz =>
      cases e3
      have e := h.grow g w
      have ev : v = .int z := r.rep
      subst ev
      refine ⟨_, st_var (e.at_ [j]) (by simp) e1, n.Z.aS, _, rfl, .inl ⟨_, kS "at", w.s, rfl, by show 3 < sizeLine; decide, rfl⟩, ?_⟩
      rw [put_at]
      exact f1 ow σ _ (e.grow (grow_st (.inl rfl)) (w.moved hz))
    next => cases e3)⟩
theorem ss_sub {a b : Expr} {p : Pos} {e : Expr} {env : PySem.Env} : swappedStores [.Subscript a b p] e env = pure none := by cases e <;> rfl
theorem map_set (l : List Int) (n : Nat) (z : Int) : (l.map V.int).set n (.int z) = (l.set n z).map V.int := by rw [List.map_set]
theorem s_stL (hu : X.A.units + 1 < cLine) (hN : X.N[j]? = some y) (hv : Vis X.env.scope y) (hd : (y == ("__debug__" : Str)) = false) (hcd : (y == ("__classdict__" : Str)) = false) (hi : PE X i (tE W Γ B E)) (he : PE X e (tE W Γ A E)) {p4 : Pos} (hsl : ∀ v, assign (.Subscript (.Subscript (.Name y p) (.Constant (.str "lefts") k p2) p3) i p4) X.env v = (do
      let ov ← holding [v] (eval (.Subscript (.Name y p) (.Constant (.str "lefts") k p2) p3) X.env)
      let iv ← holding [v, ov]
                                                                                                    (eval i X.env)
      standAt p4
      holding [v, ov, iv]
                                                                                                    (setItem ov iv v)
      release [v, ov, iv] []))
    (hs : swapsWithSole [.Subscript (.Subscript (.Name y p) (.Constant (.str "lefts") k p2) p3) i p4] e pos.line X.env = pure false) : PS X (.Assign [.Subscript (.Subscript (.Name y p) (.Constant (.str "lefts") k p2) p3) i p4] e pos) (tS W Γ (.stL j B A) E) :=
  ⟨fun pins s σ H En I ⟨n, ow, ρ, st, h, f⟩ => (ps_asg he (pg_sub (pe_dget hu (pe_var hN hv hd hcd) (pe_str (x := "lefts")) fun _ _ => rfl) hi set_list hsl) hs ss_sub).run pins s σ H En I (h.ask f fun d st1 H1 v g w r f1 => by
    obtain ⟨u, e1, f1⟩ := f1.ofO
    have e := h.grow g w
    refine ⟨_, st_var (e.at_ [j]) (by simp) e1, n.Z.aS, _, rfl, val_lefts w, ?_⟩
    refine e.ask f1 fun d2 st2 H2 v2 g2 w2 r2 f2 => ?_
    obtain ⟨z, e2, f2⟩ := f2.ofO
    obtain ⟨m, e3, f2⟩ := f2.ofO
    obtain ⟨s', e4, f2⟩ := f2.putS
    obtain rfl := intD_of e2
    obtain rfl := intD_of e3
    split at e4
    next hz =>
      cases e4
      have ev : v = .int z := r.rep
      have ev2 : v2 = .int m := r2.rep
      subst ev ev2
      refine ⟨n.Z.aL, _, m, m.toNat, rfl, rfl, w2.l, ?_, ?_⟩
      · unfold ixN
        rw [List.length_map, if_pos hz.1, if_pos hz.2]
      · rw [map_set]
        exact f2 ow σ _ ((e.grow g2 w2).grow (grow_st (.inr rfl)) (w2.left (by rw [List.length_set])))
    next => cases e4)⟩
end
end Mp
end
section
/-! Mp: the compiler: the draws' state. -/
namespace Mp
open PySem PySem.Spec
                                                                                                    PyProof.Rows L2

theorem sub_plain {o i : Expr} {p4 : Pos} {env : PySem.Env} (h : noSl i = true) : ∀ v, assign (.Subscript o i p4) env v = (do
      let ov ← holding [v]
                                                                                                    (eval o env)
      let iv ← holding [v, ov]
                                                                                                    (eval i env)
      standAt p4
      holding [v, ov, iv]
                                                                                                    (setItem ov iv v)
      release [v, ov, iv] []) := by
  intro v
  cases i <;> first | rfl | (simp [noSl] at h)
section
variable {gi : Gi} {W : Wp} {Γ : Gam} {K0 : Nat}
def eStA (ct : Ct) (y z : Str) (p p2 pos : Pos) (k : Nat) : CE gi W Γ K0 ct (.Subscript (.Name y p) (.Constant (.str z) k p2) pos) :=
  match hs : slotOf y ct.N with
  | none => neverE
  | some j => if h : (visB ct.sc y && okN y && decide (z = "at")) = true then ⟨.stA j, fun E X o => by
      simp only [Bool.and_eq_true,
                                                                                                    decide_eq_true_eq] at h
      obtain ⟨⟨h1, h2⟩, h3⟩ := h
      subst h3
      exact r_stA (by have := o.units; omega) (by rw [o.N]; exact slot_at hs) (by rw [o.sc]; exact vis_of h1) (okN_of h2).db (okN_of h2).cd⟩
    else neverE
def eStN (ct : Ct) (x y z : Str) (p0 p p2 p3 pos : Pos) (k : Nat) : CE gi W Γ K0 ct (.Call (.Name x p0) [.Subscript (.Name y p) (.Constant (.str z) k p2) p3] [] pos) :=
  match hs : slotOf y ct.N with
  | none => neverE
  | some j => if h : (visB ct.sc y && okN y && decide (z = "cells") && (glbB ct.sc x && gi.blt.contains x && decide (x = "len"))) = true then ⟨.stN j, fun E X o => by
      simp only [Bool.and_eq_true,
                                                                                                    decide_eq_true_eq] at h
      obtain ⟨⟨⟨h1, h2⟩, h3⟩, ⟨h4, h5⟩, h6⟩ := h
      subst h3 h6
      exact r_stN (by have := o.units; omega) (o.gl h4) (o.blt _ (List.contains_iff_mem.mp h5)) (by rw [o.N]; exact slot_at hs) (by rw [o.sc]; exact vis_of h1) (okN_of h2).db (okN_of h2).cd⟩
    else neverE
def eStI (ct : Ct) (y z : Str) (p p2 p3 pos : Pos) (k : Nat) (c : Bool) {e : Expr} (A : CE gi W Γ K0 ct e) : CE gi W Γ K0 ct (.Subscript (.Subscript (.Name y p) (.Constant (.str z) k p2) p3) e pos) :=
  match hs : slotOf y ct.N with
  | none => neverE
  | some j => if h : (visB ct.sc y && okN y && decide (z = stK c) && noSl e) = true then ⟨.stI c j A.t, fun E X o => by
      simp only [Bool.and_eq_true,
                                                                                                    decide_eq_true_eq] at h
      obtain ⟨⟨⟨h1, h2⟩, h3⟩, h4⟩ :=
                                                                                                    h
      subst h3
      exact r_stI c (by have := o.units; omega) (by rw [o.N]; exact slot_at hs) (by rw [o.sc]; exact vis_of h1) (okN_of h2).db (okN_of h2).cd (A.ok E X o) (ix_plain h4)⟩
    else neverE
def sStAt (ct : Ct) (y z : Str) (p p2 p3 pos : Pos) (k : Nat) {e : Expr} (A : CE gi W Γ K0 ct e) : CS gi W Γ K0 ct (.Assign [.Subscript (.Name y p) (.Constant (.str z) k p2) p3] e pos) :=
  match hs : slotOf y ct.N with
  | none => neverS
  | some j => if h : (visB ct.sc y && okN y && decide (z = "at") && noComp e) = true then ⟨.stAt j A.t, fun E X o => by
      simp only [Bool.and_eq_true,
                                                                                                    decide_eq_true_eq] at h
      obtain ⟨⟨⟨h1, h2⟩, h3⟩, h4⟩ :=
                                                                                                    h
      subst h3
      exact s_stAt (by have := o.units; omega) (by rw [o.N]; exact slot_at hs) (by rw [o.sc]; exact vis_of h1) (okN_of h2).db (okN_of h2).cd (A.ok E X o) (sw_none h4)⟩
    else neverS
def sStL (ct : Ct) (y z : Str) (p p2 p3 p4 pos : Pos) (k : Nat) {i e : Expr} (B : CE gi W Γ K0 ct i) (A : CE gi W Γ K0 ct e) : CS gi W Γ K0 ct (.Assign [.Subscript (.Subscript (.Name y p) (.Constant (.str z) k p2) p3) i p4] e pos) :=
  match hs : slotOf y ct.N with
  | none => neverS
  | some j => if h : (visB ct.sc y && okN y && decide (z = "lefts") && noComp e && noSl i) = true then ⟨.stL j B.t A.t, fun E X o => by
      simp only [Bool.and_eq_true,
                                                                                                    decide_eq_true_eq] at h
      obtain ⟨⟨⟨⟨h1, h2⟩, h3⟩, h4⟩, h5⟩ := h
      subst h3
      exact s_stL (by have := o.units; omega) (by rw [o.N]; exact slot_at hs) (by rw [o.sc]; exact vis_of h1) (okN_of h2).db (okN_of h2).cd (B.ok E X o) (A.ok E X o) (sub_plain h5) (sole_none h4)⟩
    else neverS
end
end Mp
end
section
/-! Mp: the compiler as a whole. -/
namespace Mp
open PySem PySem.Spec
                                                                                                    PyProof.Rows L2

structure Comp (gi : Gi) (W : Wp) (Γ : Gam) (K0 : Nat) where
  E : ∀ ct e, CE gi W Γ K0 ct e
  T : ∀ ct e, CT gi W Γ K0 ct e
  S : ∀ ct s, CS gi W Γ K0 ct s
section
variable {gi : Gi} {W : Wp} {Γ : Gam} {K0 : Nat}
def comp0 : Comp gi W Γ K0 := ⟨fun _ _ => neverE, fun _ _ => neverT, fun _ _ => neverS⟩
/-- targets -/
def dG1 (ct : Ct) (f : ∀ e, Option (CG gi W Γ K0 ct e)) (e : Expr) : Option (CG gi W Γ K0 ct e) :=
  match e with
  | .Name x pos => gName' ct x pos
  | .Tuple es k pos => (gAll ct f es).bind (gTup ct k pos)
  | _ => none
def dG (ct : Ct) (e : Expr) : Option (CG gi W Γ K0 ct e) := dG1 ct (dG1 ct (dG1 ct fun _ => none)) e
/-- what is walked -/
def dI (ct : Ct) (f : ∀ e, CE gi W Γ K0 ct e) (tg : Expr) (it : Expr) : CI gi W Γ K0 ct tg it :=
  match it with
  | .Call (.Name x p) es [] pos => match iRng ct tg x p pos (eAll ct f es) with
    | some i => i
    | none => match tg with
      | .Tuple elts kk tp => match iEnm ct elts kk tp x p pos (eAll ct f es) with
        | some i => i
        | none => iVal ct _ (f _)
      | _ => iVal ct _ (f _)
  | _ => iVal ct _ (f _)
/-- a call with values alone -/
def dCall1 (ct : Ct) (c : Comp gi W Γ K0) (x : Str) (p pos : Pos) (es : List Expr) : CE gi W Γ K0 ct (.Call (.Name x p) es [] pos) :=
  if (glbB ct.sc x && gi.blt.contains x) = true then eBi ct x p pos (eAll ct (c.E ct) es)
  else if visB ct.sc x = true then eCallv ct x p pos (eAll ct (c.E ct) es)
  else eCall ct x p pos (eAll ct (c.E ct) es) (eKws ct (c.E ct) [])
def dCall2 (ct : Ct) (c : Comp gi W Γ K0) (x : Str) (p pos : Pos) (es : List Expr) : CE gi W Γ K0 ct (.Call (.Name x p) es [] pos) :=
  match es with
  | [.GeneratorExp elt [⟨tg, iter, [], 0⟩] gs gpos] => match dG (ctG ct gs) tg with
    | some Gt => eQu ct x p gpos pos gs (dI ct (c.E ct) tg iter) Gt (c.E (ctG ct gs) elt)
    | none => neverE
  | [.Call (.Name y py) es' [] pos'] => if y = "range" then eRg ct (c.E ct) x y p py pos' pos es' else if y = "set" then
      match es' with
      | [a] => eSrts ct x y p py pos' pos (c.E ct a)
      | _ => neverE
    else dCall1 ct c x p pos _
  | [.Subscript (.Name y p1) (.Constant (.str z) k p2) p3] => if x = "len" then eStN ct x y z p p1 p2 p3 pos k else dCall1 ct c x p pos _
  | [a, .Name y py] => if x = "isinstance" then eIsi ct x y p py pos (c.E ct a) else dCall1 ct c x p pos _
  | _ => dCall1 ct c x p pos _
def dCall (ct : Ct) (c : Comp gi W Γ K0) (x : Str) (p pos : Pos) (es : List Expr) (kws : List Keyword) : CE gi W Γ K0 ct (.Call (.Name x p) es kws pos) :=
  match kws with
  | [] => dCall2 ct c x p pos es
  | [⟨nm, .Name y p2, kp⟩] => if x = "sorted" then
      match es with
      | [a] => eSrtk ct x y p p2 kp pos nm (c.E ct a)
      | _ => neverE
    else eCall ct x p pos (eAll ct (c.E ct) es) (eKws ct (c.E ct) _)
  | _ => eCall ct x p pos (eAll ct (c.E ct) es) (eKws ct (c.E ct) _)
def dLc (ct : Ct) (c : Comp gi W Γ K0) (elt : Expr) (gs : List Comprehension) (cs : Scope) (pos : Pos) : CE gi W Γ K0 ct (.ListComp elt gs cs pos) :=
  match gs with
  | [⟨tg, iter, ifs, 0⟩] => match dG (ctB ct cs) tg, eIfs (ctB ct cs) (c.T (ctB ct cs)) ifs with
    | some Gt, some F => eLc ct cs pos (dI ct (c.E ct) tg iter) Gt F (c.E (ctB ct cs) elt)
    | _, _ => neverE
  | _ => neverE
def dDc (ct : Ct) (c : Comp gi W Γ K0) (kx vx : Expr) (gs : List Comprehension) (cs : Scope) (pos : Pos) : CE gi W Γ K0 ct (.DictComp kx vx gs cs pos) :=
  match gs with
  | [⟨tg, iter, [], 0⟩] => match dG (ctB ct cs) tg with
    | some Gt => eDc ct cs pos (dI ct (c.E ct) tg iter) Gt (c.E (ctB ct cs) kx) (c.E (ctB ct cs) vx)
    | none => neverE
  | _ => neverE
def dSub (ct : Ct) (c : Comp gi W Γ K0) (a b : Expr) (pos : Pos) : CE gi W Γ K0 ct (.Subscript a b pos) :=
  match b with
  | .Slice lo hi none p2 => eSl ct p2 pos (c.E ct a) (eOpt ct (c.E ct) lo) (eOpt ct (c.E ct) hi)
  | .Constant (.str z) k p2 => match a with
    | .Name y p => eStA ct y z p p2 pos k
    | _ => neverE
  | _ => match a with
    | .Subscript (.Name y p) (.Constant (.str z) k p2) p3 => if z = "cells" then eStI ct y z p p2 p3 pos k true (c.E ct _) else eStI ct y z p p2 p3 pos k false (c.E ct _)
    | _ => eIx ct pos (c.E ct _) (c.E ct _)
def dCmp (ct : Ct) (c : Comp gi W Γ K0) (a : Expr) (os : List CmpOp) (bs : List Expr) (pos : Pos) : CE gi W Γ K0 ct (.Compare a os bs pos) :=
  match os, bs with
  | [op], [b] => eCmp ct op pos (c.E ct a) (c.E ct b)
  | [p, q], [b, d] => eChn ct p q pos (c.E ct a) (c.E ct b) (c.E ct d)
  | _, _ => neverE
def dE (c : Comp gi W Γ K0) (ct : Ct) (e : Expr) : CE gi W Γ K0 ct e :=
  match e with
  | .Name x pos => eName ct x pos
  | .Constant v k pos => eConst ct v k pos
  | .BinOp a op b pos => eBin ct op pos (c.E ct a) (c.E ct b)
  | .UnaryOp op a pos => match op with
    | .USub => eNeg ct pos (c.E ct a)
    | .Not => eNot ct pos (c.E ct a)
    | _ => neverE
  | .BoolOp op es pos => eBool ct (c.E ct) op pos es
  | .IfExp t a b pos => eIf ct pos (c.T ct t) (c.E ct a) (c.E ct b)
  | .Compare a os bs pos => dCmp ct c a os bs pos
  | .Tuple es k pos => eTup ct k pos (eAll ct (c.E ct) es)
  | .List es pos => eLst ct pos (eAll ct (c.E ct) es)
  | .Subscript a b pos => dSub ct c a b pos
  | .ListComp elt gs cs pos => dLc ct c elt gs cs pos
  | .DictComp kx vx gs cs pos => dDc ct c kx vx gs cs pos
  | .Call (.Name x p) es kws pos => dCall ct c x p pos es kws
  | _ => neverE
def dT (c : Comp gi W Γ K0) (ct : Ct) (e : Expr) : CT gi W Γ K0 ct e :=
  match e with
  | .Compare a [op] [b] pos => tCmp ct op pos (c.E ct a) (c.E ct b)
  | .Compare a [p, q] [b, d] pos => tChn ct p q pos (c.E ct a) (c.E ct b) (c.E ct d)
  | .UnaryOp .Not a pos => tNot ct pos (c.T ct a)
  | .BoolOp op (a :: r) pos => tBool ct (wBool ct (c.T ct) op pos a r)
  | _ => tVal ct (c.E ct _)
def dExp (ct : Ct) (c : Comp gi W Γ K0) (e : Expr) (pos : Pos) : CS gi W Γ K0 ct (.Expr e pos) :=
  match e with
  | .Call (.Attribute (.Name x p) m apos) [a] [] cpos => sMeth ct x m p apos cpos pos (c.E ct a)
  | _ => sExp ct pos (c.E ct _)
def dSet (ct : Ct) (c : Comp gi W Γ K0) (x : Str) (p : Pos) (e : Expr) (pos : Pos) : CS gi W Γ K0 ct (.Assign [.Name x p] e pos) :=
  match e with
  | .ListComp elt [⟨tg, iter, ifs, 0⟩] cs cpos => match dG (ctB ct cs) tg, eIfs (ctB ct cs) (c.T (ctB ct cs)) ifs with
    | some Gt, some F => sSetLc ct x p cs cpos pos (dI ct (c.E ct) tg iter) Gt F (c.E (ctB ct cs) elt)
    | _, _ => neverS
  | .DictComp kx vx [⟨tg, iter, [], 0⟩] cs cpos => match dG (ctB ct cs) tg with
    | some Gt => sSetDc ct x p cs cpos pos (dI ct (c.E ct) tg iter) Gt (c.E (ctB ct cs) kx) (c.E (ctB ct cs) vx)
    | none => neverS
  | _ => sSet ct x p pos (c.E ct _)
def dTup (ct : Ct) (c : Comp gi W Γ K0) (ts : List Expr) (k : Nat) (p : Pos) (e : Expr) (pos : Pos) : CS gi W Γ K0 ct (.Assign [.Tuple ts k p] e pos) :=
  match ts, e with
  | [.Name x px, .Name y py], .Tuple [a, b] k2 pt2 => if (decide (ct.sc.names.lookup x = some .local) && decide (ct.sc.names.lookup y = some .local)) = true then sPar ct x y px py p pt2 pos k k2 (c.E ct a) (c.E ct b) else
    match dG ct (.Tuple [.Name x px, .Name y py] k p) with
    | some Gt => sTup2 ct pos Gt (c.E ct (.Tuple [a, b] k2 pt2))
    | none => neverS
  | _, _ => match dG ct (.Tuple _ k p) with
    | some Gt => sTup ct pos Gt (c.E ct _)
    | none => neverS
def dAsg (ct : Ct) (c : Comp gi W Γ K0) (ts : List Expr) (e : Expr) (pos : Pos) : CS gi W Γ K0 ct (.Assign ts e pos) :=
  match ts with
  | [.Name x p] => dSet ct c x p e pos
  | [.Tuple es k p] => dTup ct c es k p e pos
  | [.Subscript (.Name y p) (.Constant (.str z) k p2) p3] => sStAt ct y z p p2 p3 pos k (c.E ct e)
  | [.Subscript (.Subscript (.Name y p) (.Constant (.str z) k p2) p3) i p4] => sStL ct y z p p2 p3 p4 pos k (c.E ct i) (c.E ct e)
  | _ => neverS
def dFor (ct : Ct) (c : Comp gi W Γ K0) (tg it : Expr) (b els : List Stmt) (pos : Pos) : CS gi W Γ K0 ct (.For tg it b els pos) :=
  match els with
  | [] => match dG ct tg with
    | some Gt => sFor ct pos (dI ct (c.E ct) tg it) Gt (sAll ct (c.S ct) b)
    | none => neverS
  | _ => neverS
def dS (c : Comp gi W Γ K0) (ct : Ct) (s : Stmt) : CS gi W Γ K0 ct s :=
  match s with
  | .Pass pos => ⟨.pas, fun _ _ _ => s_pas⟩
  | .Break pos => ⟨.brk, fun _ _ _ => s_brk⟩
  | .Continue pos => ⟨.cnt, fun _ _ _ => s_cnt⟩
  | .Return (some e) pos => sRet ct pos (c.E ct e)
  | .Expr e pos => dExp ct c e pos
  | .If t a b pos => sIf ct pos (c.T ct t) (sAll ct (c.S ct) a) (sAll ct (c.S ct) b)
  | .For tg it b els pos => dFor ct c tg it b els pos
  | .Assign ts e pos => dAsg ct c ts e pos
  | _ => neverS
def comp : Nat → Comp gi W Γ K0
  | 0 => comp0
  | n + 1 => ⟨dE (comp n), dT (comp n), dS (comp n)⟩
end
end Mp
end
section
/-! Mp: all defs of a module keep their promises. -/
namespace Mp
open PySem PySem.Spec
                                                                                                    PyProof.Rows L2

/-- a def of the module -/
structure DefS where
  x : Str
  ps : List Str
  N : List Str
  st : Stmt
  gen : Bool
  cs : List C
def DefS.ct (d : DefS) : Ct := ⟨d.N, C8.fnScope d.st, d.gen, true, 5⟩
section
variable {P : Program} {w : PySem.World} {K : PySem.W.Frag} {mg : Str → Option Value} {base : Heap} {gi : Gi} {W : Wp} {tab : Str → Option Fn}
/-- the def as it stands behind the top -/
abbrev FunX (K : PySem.W.Frag) (x : Str) (st : Stmt) (f : Addr) (fd : FuncData) : Prop := FunD K x x (C8.fnArgs st) (C8.fnBody st) (C8.fnScope st) [] [] f fd
/-- what the head tells of a def -/
structure DefH (K : PySem.W.Frag) (mg : Str → Option Value) (d : DefS) (pats : List (Nat × List Str × List Nat)) (f : Addr) (fd : FuncData) : Prop where
  g : mg d.x = some (.ref f)
  F : FunX K d.x d.st f fd
  b : ∀ p ∈ pats, BindP K fd d.ps p.1 p.2.1 p.2.2 ∧ ∀ vs : List V, vs.length = p.1 + p.2.1.length → ∀ as, permL p.2.2 vs = some as → as.length = d.ps.length
/-- all is kept at a level -/
structure AllOk (P : Program) (w : PySem.World) (K : PySem.W.Frag) (mg : Str → Option Value) (base : Heap) (gi : Gi) (W : Wp) (Γ : Gam) (k : Nat) : Prop where
  defs : ∀ p ∈ gi.defs, DefOk P w K mg base CX0 k W Γ p.1 p.2
  lam : ∀ lx, LamOk P w K mg base CX0 k W Γ lx
/-- what the module's names are -/
structure ModH (mg : Str → Option Value) (gi : Gi) : Prop where
  nums : ∀ p ∈ gi.nums, ∃ t, mg p.1 = some (.int p.2 t)
  blt : ∀ x ∈ gi.blt, mg x = none
/-- the table of a def's code object -/
def TabH (base : Heap) (mg : Str → Option Value) (W : Wp) (cd : Value) : Prop := ∃ c Q, LamX.TabB base mg c Q ∧ cd = .ref c ∧ Q ∈ W.tabs ∧ ∀ p ∈ W.ltabs, p.1 ≠ Q
theorem ok_of {Γ : Gam} {K0 : Nat} (a : AllOk P w K mg base gi W Γ K0) (m : ModH mg gi) {x : Str} {N : List Str} {sc : Scope} {gen : Bool} {f : Addr} {cdv : Value} {A : Around} {outer : List PySem.Env} {s : Shared} {H : Hp} {E : XK} (nd : N.Nodup) (hr : RoomG (K0 + 5) (A.deeper (envOfC x sc s.heap.objs.size f cdv)))
    (ht : gen = true → TabH base mg W cdv) : Ok gi W Γ K0 ⟨N, sc, gen, true, 5⟩ (cxOf CX0 P w K mg base N x sc f cdv A outer s H E).nox :=
  ⟨rfl, nd, rfl, rfl, fun _ _ => rfl, hr, PassesOwn.never, a.defs, m.nums, m.blt, a.lam, fun h => by
    obtain ⟨c, Q, h1, h2, h3, h4⟩ := ht h
    exact ⟨c, Q, h1, h2, h3, h4⟩⟩
/-- a def by its body -/
theorem fn_gD {Γ Γ' : Gam} {x : Str} {st : Stmt} {f : Addr} {fd : FuncData} {N ps : List Str} {k : Nat} {cs : List C} (F : FunX K x st f fd) (S : FnScope N ps (C8.fnScope st)) (hN : ps.length ≤ N.length) (hΓ : ∀ ds, ds.length = ps.length → Γ x ds = bnd (evCs Γ' cs (initE N.length ds)) outD)
    (hb : ∀ (A : Around) (outer : List PySem.Env) (s : Shared) (H : Hp) (E : XK), RoomG k (A.deeper (envOfC x (C8.fnScope st) s.heap.objs.size f fd.code)) → PSs (cxOf CX0 P w K mg base N x (C8.fnScope st) f fd.code A outer s H E).nox (C8.fnBody st) (tSs W Γ' cs E)) :
    FnG P w K mg base CX0 (k + 1) f fd ps (spD W Γ x ps.length) := by
  obtain ⟨oc, od, dV, kV, doc, pm, an, cdv, ct, osl, e, lk, hcd, _, _⟩ := F.ex
  subst e
  refine ⟨fun vs H Q E h => h.1, fun A outer s H args us vs Q E hr e0 hbd rv hsp => ?_⟩
  obtain ⟨hl, q, s1, ds, z0, rd, fin⟩ := hsp
  have hds : ds.length = ps.length := by rw [rd.len]; exact hl
  rw [hΓ ds hds] at fin
  exact LamX.run_ofS lk hcd S hr.r e0 hbd rv hl fun _ => ⟨_, (hb A outer s H E (hr.deeper _)).nox, ⟨q.Z, q.B, H, []⟩, [], initE N.length ds, s1, env_start z0 rd (by omega), fin_start fin⟩
/-- nothing is promised at the lowest level -/
theorem def_zero {x : Str} {f : Addr} {fd : FuncData} {ps : List Str} {pats : List (Nat × List Str × List Nat)} {k : Nat} (g : mg x = some (.ref f)) (kp : PySem.W.keepIn K (.ref f) = true) (b : ∀ p ∈ pats, BindP K fd ps p.1 p.2.1 p.2.2 ∧ ∀ vs : List V, vs.length = p.1 + p.2.1.length → ∀ as, permL p.2.2 vs = some as → as.length = ps.length) :
    DefOk P w K mg base CX0 k W (callF tab 0) x pats :=
  ⟨f, fd, ps, g, kp, ⟨fun vs H Q E h => h.1, fun A outer s H args us vs Q E hr e0 hbd rv ⟨hl, q, st, ds, z0, rd, fin⟩ => fin.elim⟩, b⟩
theorem lam_zero {k : Nat} {lx : Str} : LamOk P w K mg base CX0 k W (callF tab 0) lx := ⟨fun A outer s H f us vs Q E q st ds cs hr e0 rv s0 rd n1 rc n2 fin => fin.elim⟩
theorem call_code {n : Nat} {x : Str} {ar m : Nat} {cs : List C} {ds : List D} (h : tab x = some (.code ar m cs)) (hl : ds.length = ar) : callF tab (n + 1) x ds = bnd (evCs (callF tab n) cs (initE m ds)) outD := by
  rw [callF, h]
  exact if_pos hl
/-- one level up -/
theorem def_up {n : Nat} {d : DefS} {pats : List (Nat × List Str × List Nat)} {f : Addr} {fd : FuncData} (a : AllOk P w K mg base gi W (callF tab n) (6 * n)) (m : ModH mg gi) (h : DefH K mg d pats f fd) (hs : C8.scC d.N d.ps (C8.fnScope d.st) = true) (hN : d.ps.length ≤ d.N.length) (ht : tab d.x = some (.code d.ps.length d.N.length d.cs))
    (tb : d.gen = true → TabH base mg W fd.code) (hb : ∀ E X, Ok gi W (callF tab n) (6 * n) d.ct X → PSs X (C8.fnBody d.st) (tSs W (callF tab n) d.cs E)) : DefOk P w K mg base CX0 (6 * (n + 1)) W (callF tab (n + 1)) d.x pats := by
  have S := C8.fnScope_by hs
  refine ⟨f, fd, d.ps, h.g, h.F.kp, ?_, h.b⟩
  exact fn_gD (k := 6 * n + 5) h.F S hN (fun ds hl => call_code ht hl) fun A outer s H E hr => hb E _ (ok_of a m S.nd hr tb)
end
end Mp
end
section
/-! Mp: lambdas of the text. -/
namespace Mp
open PySem PySem.Spec
                                                                                                    PyProof.Rows L2

/-- what is asked of a lambda's names -/
def lamB (ct : Ct) (sc : Scope) (caps : List Nat) : Bool :=
  ct.fn && (sc.names.all fun y => !decide (y.2 = .free) || decide (ct.sc.names.lookup y.1 = some .cell) || decide (ct.sc.names.lookup y.1 = some .free)) && decide (caps.length = (freeNs sc.names []).length) && ((freeNs sc.names []).zip caps).all fun p => decide (ct.N[p.2]? = some p.1)
/-- the table of lambdas of a def's code object -/
def LTabH (base : Heap) (mg : Str → Option Value) (W : Wp) (cd : Value) (qn : Str) : Prop := ∃ c Q, LamX.TabB base mg c Q ∧ cd = .ref c ∧ (Q, qn) ∈ W.ltabs ∧ (∀ p ∈ W.ltabs, p.1 = Q → p.2 = qn) ∧ Q ∉ W.tabs
section
variable {gi : Gi} {W : Wp} {Γ : Gam} {K0 : Nat}
theorem lam_r {ct : Ct} {X : Cx} (o : Ok gi W Γ K0 ct X) {sc : Scope} {caps : List Nat} {lx qn : Str} {params : Arguments} {body : Expr} (hB : lamB ct sc caps = true) (hl : W.lam lx = some ⟨qn, params, body, sc, freeNs sc.names []⟩) (hq : X.env.qual ++ "<lambda>" = qn)
    (ht : LTabH X.base X.mg W X.env.code qn) (hd : defaultsOf params X.env = ([], [])) : ∃ c P, LamR X W c P params body sc lx qn caps := by
  obtain ⟨c, Q, h1, h2, h3, h4, h5⟩ := ht
  unfold lamB at hB
  simp only [Bool.and_eq_true, List.all_eq_true, Bool.or_eq_true, Bool.not_eq_true', decide_eq_true_eq, decide_eq_false_iff_not] at hB
  obtain ⟨⟨⟨b1, b2⟩, b3⟩, b4⟩ := hB
  refine ⟨c, Q, hl, hq, h1, h2, h3, h4, h5, hd, fun y hy e => ?_, b3, fun j n i e1 e2 => ?_, o.fn b1⟩
  · rw [o.sc]
    rcases b2 y hy with (z | z) | z
    · exact absurd e z
    · exact .inl z
    · exact .inr z
  · rw [o.N]
    refine b4 (n, i) ?_
    have : ((freeNs sc.names []).zip caps)[j]? = some (n, i) := by
      rw [List.getElem?_zip_eq_some]
      exact ⟨e1, e2⟩
    exact List.mem_of_getElem? this
/-- name = f(e, lambda) -/
theorem s_lam {ct : Ct} {X : Cx} {E : XK} (o : Ok gi W Γ K0 ct X) {e : Expr} (A : CE gi W Γ K0 ct e) {x f lx qn : Str} {i : Nat} {c P : Addr} {p1 p2 p3 p4 lp : Pos} {params : Arguments} {body : Expr} {sc : Scope} {caps : List Nat} {pats : List (Nat × List Str × List Nat)} (R : LamR X W c P params body sc lx qn caps)
    (hi : slotOf x ct.N = some i) (hx : (noStar [e, .Lambda params body sc lp] && locB ct.sc x && (ct.fn || decide (ct.sc.names.lookup x = some .local)) && glbB ct.sc f && okN f && noStar [e]) = true) (hp : patsOf f gi.defs = some pats) (hm : (2, [], []) ∈ pats) :
    PS X (.Assign [.Name x p1] (.Call (.Name f p2) [e, .Lambda params body sc lp] [] p3) p4) (tS W Γ (.asg (.nm i) (.callL f [A.t] lx caps)) E) := by
  simp only [Bool.and_eq_true] at hx
  obtain ⟨⟨⟨⟨⟨h1, h2⟩, h3⟩, h4⟩, h5⟩, h6⟩ := hx
  have D := (o.defs _ (pats_mem hp)).up (Nat.le_add_right K0 ct.d)
  exact s_set o.nd (by rw [o.N]; exact slot_at hi) (by rw [o.sc]; exact loc_of h2) (r_callL (es := [e]) R D o.room (o.gl h4) hm (.cons (A.ok E X o) .nil) h1 h6 (okN_of h5).db) (sw_none rfl) (store_fn o h3)
end
section
variable {P : Program} {w : PySem.World} {K : PySem.W.Frag} {mg : Str → Option Value} {base : Heap} {gi : Gi} {W : Wp} {tab : Str → Option Fn}
theorem lam_none {Γ : Gam} {k : Nat} {lx : Str} (h : W.lam lx = none) : LamOk P w K mg base CX0 k W Γ lx := ⟨fun A outer s H f us vs Q E q st ds cs hr e0 rv s0 rd n1 rc n2 fin => by
  obtain ⟨L, _, _, _, _, e, _⟩ := rc
  rw [h] at e
  cases e⟩
theorem call_lam {n : Nat} {x : Str} {ar m : Nat} {ce : T} {ds : List D} (h : tab x = some (.lam ar m ce)) : callF tab (n + 1) x ds = if ds.length = ar then nox (ev (callF tab n) (initE m ds) ce) else no := by rw [callF, h]
theorem lam_up {n : Nat} {lx : Str} {L : LamD} {NL ps : List Str} {ce : T} (a : AllOk P w K mg base gi W (callF tab n) (6 * n)) (m : ModH mg gi) (hL : ∀ L', W.lam lx = some L' → L' = L) (hs : lamScB NL ps L = true)
    (hb : ∀ (cl : List (Str × Addr)) (pm cv ctv : Value) (us : List Value), us.length = ps.length → bindArgs (PySem.W.kla_fn "<lambda>" L.qual L.params L.body L.scope cl pm cv ctv) ⟨us, []⟩ = pure (ps.zip us)) (ht : tab lx = some (.lam (ps.length + L.cn.length) NL.length ce))
    (he : ∀ E X, Ok gi W (callF tab n) (6 * n) ⟨NL, L.scope, false, false, 5⟩ X → PE X L.body (tE W (callF tab n) ce E)) : LamOk P w K mg base CX0 (6 * (n + 1)) W (callF tab (n + 1)) lx := by
  have S := lamSc_by hs
  refine lam_ok (k := 6 * n + 5) (Γ' := callF tab n) hL S hb (fun A outer s H f c' cl hr => he _ _ ⟨rfl, S.nd, rfl, rfl, fun h => (by cases h), hr, PassesOwn.never, a.defs, m.nums, m.blt, a.lam, fun h => (by cases h)⟩) (fun ds st hl => ?_) fun ds st hl => ?_
  · rw [call_lam ht, if_pos hl]
  · rw [call_lam ht, if_neg hl]
    rfl
end
end Mp
end
section
/-! Mp: the draws' state is made. -/
namespace Mp
open PySem PySem.Spec
                                                                                                    PyProof.Rows L2

def cells0 (ns : List Int) : List Int := if ns = [] then [0] else ns
def left0 (c : Int) : Int := if 10 ^ 18 ≤ c then c else 0
def lefts0 (ns : List Int) : List Int := (cells0 ns).map left0
abbrev Ex2 (H H' : Hp) : Prop := ∀ b o, H b = some o → H' b = some o
theorem ex_upd {H H' : Hp} {p : Addr} {o : HO} (e : Ex2 H H') (h : H p = none) : Ex2 H (upd H' p o) := fun b u k => by
  rw [upd_ne (ne_of_none k h)]
  exact e b u k
/-- what of the state is given back -/
structure Beg (ns : List Int) (aS aC aL : Addr) (H H' : Hp) : Prop where
  ex : Ex2 H H'
  s : H' aS = some (.dK [(kS "cells", .ref aC), (kS "lefts", .ref aL), (kS "at", .int 0)])
  c : H' aC = some (.lst ((cells0 ns).map V.int))
  l : H' aL = some (.lst ((lefts0 ns).map V.int))
  ne : aC ≠ aL
def spB (K : PySem.W.Frag) : Sp := fun vs H Q E => vs.length = 1 ∧ ∃ a ns, vs = [.ref a] ∧ SqL K H a (ns.map V.int) ∧ ns.length ≤ 90 ∧ ∀ aS aC aL H', Beg ns aS aC aL H H' → Q (.ref aS) H'
def begB (gi : Gi) (ct : Ct) (x0 x1 x2 : Str) (cs : Scope) : Bool :=
  visB ct.sc x0 && okN x0 && (locB ct.sc x1 && ct.fn) && (visB ct.sc x1 && okN x1) && (glbB ct.sc "list" && gi.blt.contains "list") && blkC ct.N ct.sc cs [(x2, 2)] && (visB (relS cs ct.sc) x2 && okN x2) && (locB (relS cs ct.sc) x2 && decide ((relS cs ct.sc).names.lookup x2 = some .local))
theorem dp_ints {K : PySem.W.Frag} {H : Hp} : ∀ ns : List Int, DpAll K H (ns.map V.int) (ns.map PyData.int)
  | [] => .nil
  | n :: ns => .cons (.int n) (dp_ints ns)
theorem eqv_nil (ns : List Int) : PyData.eqv (.list (ns.map PyData.int)) (.list []) = decide (ns = []) := by
  cases ns <;> simp [PyData.eqv, PyData.eqvAll]
/-- the display, by words -/
def tB2 (K : PySem.W.Frag) : List (TE × TE) := [(tC (.str "cells"), tVar 1), (tC (.str "lefts"), tLc (iList K (tVar 1)) (gName 2) tYes (tIf (tTest (tOp (rI0 fun i j => .bl (decide (j ≤ i))) (tVar 2) (tOp (rI CPow fun i j => .int (i ^ j.toNat)) (tC (.int 10)) (tC (.int 18))))) (tVar 2) (tC (.int 0))) [2]), (tC (.str "at"), tC (.int 0))]
theorem merge_st {aC aL : Addr} : mergeK [] [(kS "cells", V.ref aC), (kS "lefts", V.ref aL), (kS "at", V.int 0)] = [(kS "cells", V.ref aC), (kS "lefts", .ref aL), (kS "at", .int 0)] := by
  have h1 : ¬ (("cells" : Str) = "lefts") := by decide +kernel
  simp [mergeK, putK, sne1, sne2, h1]
theorem disp_fin {K : PySem.W.Frag} {ns : List Int} {σ : L2.St} {H H1 : Hp} {aC : Addr} {Q : VK} (e : Ex2 H H1) (h1 : σ[1]? = some (some (.ref aC))) (h2 : 2 < σ.length) (hc : H1 aC = some (.lst ((cells0 ns).map V.int))) (nc : H aC = none) (hn : ns.length ≤ 90)
    (q : ∀ aS aL H', Beg ns aS aC aL H H' → Q (.ref aS) H') : tDisp (tB2 K) σ H1 Q := by
  intro p hp
  have np : H p = none := by
    cases z : H p with
    | none => rfl
    | some u =>
      rw [e _ _ z] at hp
      cases hp
  have cp : aC ≠ p := fun z => by
    rw [z, hp] at hc
    cases hc
  have lc : (cells0 ns).length ≤ 90 := by
    unfold cells0
    split
    · decide
    · exact hn
  refine ⟨_, h1, _, h1, aC, rfl, ⟨_, SqL.of (by rw [upd_ne cp]; exact hc)⟩, fun D hD => ?_⟩
  have Dp : D ≠ p := fun z => by
    rw [z, upd_same] at hD
    cases hD
  have DC : D ≠ aC := fun z => by
    rw [z, upd_ne cp, hc] at hD
    cases hD
  have nD : H D = none := by
    cases z : H D with
    | none => rfl
    | some u =>
      rw [upd_ne Dp, e _ _ z] at hD
      cases hD
  refine lc_list (K := K) (a := aC) (xs := (cells0 ns).map V.int) (fun i F => F = upd (upd H1 p (.dK [])) D (.lst (((cells0 ns).take i).map fun c => V.int (left0 c)))) rfl (fun i F _ hF => ?_) (fun i x F hx hF => ?_) fun F hF => ?_
  · rw [hF]
    exact SqL.of (by rw [upd_ne (Ne.symm DC), upd_ne cp]; exact hc)
  · rw [List.getElem?_map] at hx
    obtain ⟨c, hc', rfl⟩ := Option.map_eq_some_iff.mp hx
    have hi : i < (cells0 ns).length := (List.getElem?_eq_some_iff.mp hc').1
    have tk : (cells0 ns).take (i + 1) = (cells0 ns).take i ++ [c] := take_more hc'
    have l2 : 2 < (wipe σ [2]).length := by rw [wipe_length]; exact h2
    have s2 : ((wipe σ [2]).set 2 (some (V.int c)))[2]? = some (some (V.int c)) := List.getElem?_set_self l2
    refine ⟨?_, ?_⟩
    · rw [wipe_of (σ2 := (wipe σ [2]).set 2 (some (V.int c))) (σ := wipe σ [2]) (by rw [List.length_set]) fun j hj => List.getElem?_set_ne (fun z => hj (by rw [← z]; exact List.mem_singleton.mpr rfl)), wipe_wipe]
    · have step : ∀ z : Int, z = left0 c → ∃ acc, F D = some (.lst acc) ∧ acc.length < sizeLine ∧ upd F D (.lst (acc ++ [V.int z])) = upd (upd H1 p (.dK [])) D (.lst (((cells0 ns).take (i + 1)).map fun c => V.int (left0 c))) := fun z hz => by
        refine ⟨_, by rw [hF, upd_same], by rw [List.length_map, List.length_take, sizeLine_eq]; omega, ?_⟩
        rw [hF, tk, List.map_append, hz]
        funext b
        by_cases hb : b = D
        · rw [hb, upd_same, upd_same]
          rfl
        · rw [upd_ne hb, upd_ne hb, upd_ne hb]
      refine ⟨_, s2, 10, 18, rfl, rfl, ⟨by decide, by decide, by decide⟩, c, 10 ^ 18, rfl, rfl, _, rfl, ?_⟩
      dsimp only
      by_cases hb : (10 : Int) ^ 18 ≤ c
      · rw [if_pos (by simpa using hb)]
        exact ⟨_, s2, step c (by unfold left0; rw [if_pos hb])⟩
      · rw [if_neg (by simpa using hb)]
        exact step 0 (by unfold left0; rw [if_neg hb])
  · have hF : F = upd (upd H1 p (.dK [])) D (.lst ((((cells0 ns)).take ((cells0 ns).map V.int).length).map fun c => V.int (left0 c))) := hF
    rw [List.length_map, List.take_length] at hF
    refine ⟨by rw [hF, upd_ne (Ne.symm Dp), upd_same], [(kS "cells", .ref aC), (kS "lefts", .ref D), (kS "at", .int 0)], rfl, by show 3 ≤ 15; omega, ?_⟩
    rw [merge_st]
    refine q p D _ ⟨ex_upd (by rw [hF]; exact ex_upd (ex_upd e np) nD) np, upd_same, ?_, ?_, Ne.symm DC⟩
    · rw [upd_ne cp, hF, upd_ne (Ne.symm DC), upd_ne cp]
      exact hc
    · rw [upd_ne Dp, hF, upd_same]
      unfold lefts0
      rw [List.map_map]
      rfl
section
variable {gi : Gi} {W : Wp} {Γ : Gam} {K0 : Nat}
theorem begin_ps {ct : Ct} {X : Cx} (o : Ok gi W Γ K0 ct X) {x0 x1 x2 : Str} {cs : Scope} (hN : ct.N = [x0, x1, x2]) (hB : begB gi ct x0 x1 x2 cs = true) {p1 p2 p3 p4 p5 p6 p7 p8 p9 p10 p11 p12 p13 p14 p15 p16 p17 p18 p19 p20 p21 p22 p23 p24 p25 p26 p27 p28 p29 : Pos} {k0 k1 k2 k3 k4 k5 k6 k7 : Nat}
    {a : Addr} {ns : List Int} {H : Hp} {Q : VK} (hl : SqL X.K H a (ns.map V.int)) (hn : ns.length ≤ 90) (q : ∀ aS aC aL H', Beg ns aS aC aL H H' → Q (.ref aS) H') :
    ∃ t, PSs X [.Assign [.Name x1 p1] (.IfExp (.Compare (.Name x0 p2) [.NotEq] [.List [] p3] p4) (.Call (.Name "list" p5) [.Name x0 p6] [] p7) (.List [.Constant (.int 0) k0 p8] p9) p10) p11,
      .Return (some (.Dict [some (.Constant (.str "cells") k1 p12), some (.Constant (.str "lefts") k2 p13), some (.Constant (.str "at") k3 p14)]
        [.Name x1 p15, .ListComp (.IfExp (.Compare (.Name x2 p16) [.GtE] [.BinOp (.Constant (.int 10) k4 p17) .Pow (.Constant (.int 18) k5 p18) p19] p20) (.Name x2 p21) (.Constant (.int 0) k6 p22) p23) [⟨.Name x2 p24, .Name x1 p25, [], 0⟩] cs p26, .Constant (.int 0) k7 p27] p28)) p29] t ∧
      t { nx := fun _ H' => Q .non H', rt := Q } (L2.start X.N [.ref a]) H := by
  unfold begB at hB
  simp only [Bool.and_eq_true, decide_eq_true_eq] at hB
  obtain ⟨⟨⟨⟨⟨⟨⟨b1, b2⟩, b3, b4⟩, b5, b6⟩, b7, b8⟩, b9⟩, b10, b11⟩, b12, b13⟩ := hB
  have n0 : X.N[0]? = some x0 := by rw [o.N, hN]; rfl
  have n1 : X.N[1]? = some x1 := by rw [o.N, hN]; rfl
  have v0 : Vis X.env.scope x0 := by rw [o.sc]; exact vis_of b1
  have v1 : Vis X.env.scope x1 := by rw [o.sc]; exact vis_of b5
  have l1 : Loc X.env.scope x1 := by rw [o.sc]; exact loc_of b3
  have bo := blkOk_by b9
  rw [← o.N, ← o.sc] at bo
  have hu := o.units
  have ok2 := fun s H C cl fp => blk_ok o cs s H C cl fp
  have pe0 : ∀ p, PE X (.Name x0 p) (tVar 0) := fun p => pe_var n0 v0 (okN_of b2).db (okN_of b2).cd
  have pe1 : ∀ p, PE X (.Name x1 p) (tVar 1) := fun p => pe_var n1 v1 (okN_of b6).db (okN_of b6).cd
  have pe2 : ∀ s H C cl fp p, PE (X.blk s H cs (compEnvC cs cl C X.env) fp) (.Name x2 p) (tVar 2) := fun s H C cl fp p => pe_var (by rw [(ok2 s H C cl fp).N]; show ct.N[2]? = _; rw [hN]; rfl) (by rw [(ok2 s H C cl fp).sc]; exact vis_of b10) (okN_of b11).db (okN_of b11).cd
  refine ⟨_, pss_cons (ps_set o.nd n1 l1 (pe_ifExp (pt_cmpR (op_neD (by omega)) (pe0 p2) (pe_lst pa_nil) rfl) (pe_callTy call_list_of (o.gl b7) (o.blt _ (List.contains_iff_mem.mp b8)) (by decide +kernel) (pa_cons (pe0 p6) pa_nil rfl)) (pe_lst (pa_cons pe_int pa_nil rfl))) (sw_none rfl) (.inl (o.fn b4 x1)))
    (pss_cons (ps_ret (pe_disp (pps_cons pe_str (pe1 p15) (pps_cons pe_str (pe_lc o.calm o.nd (pi_list (pe1 p25)) bo (fun s H C cl fp => pg_name (ok2 s H C cl fp).nd (i := 2) (by rw [(ok2 s H C cl fp).N]; show ct.N[2]? = _; rw [hN]; rfl) (by rw [(ok2 s H C cl fp).sc]; exact loc_of b12) (.inr (by rw [(ok2 s H C cl fp).sc]; exact b13)))
      (fun s H C cl fp => pts_nil) (fun s H C cl fp => pe_ifExp (pt_cmpR op_ge (pe2 s H C cl fp p16) (pe_op op_pow pe_int pe_int) rfl) (pe2 s H C cl fp p21) pe_int) (fun _ => rfl)) (pps_cons pe_str pe_int pps_nil))) rfl rfl (by simp) (by show 3 ≤ 15; omega))) pss_nil), ?_⟩
  have hσ : ∀ v, ((L2.start X.N [V.ref a]).set 1 (some v))[1]? = some (some v) := fun v => by
    rw [o.N, hN]
    rfl
  have fin : ∀ (aC : Addr) (H1 : Hp), Ex2 H H1 → H aC = none → H1 aC = some (.lst ((cells0 ns).map V.int)) → tDisp (tB2 X.K) ((L2.start X.N [V.ref a]).set 1 (some (.ref aC))) H1 Q := fun aC H1 e nc hc =>
    disp_fin e (hσ _) (by rw [o.N, hN, List.length_set]; show 2 < 3; decide) hc nc hn fun aS aL H' b => q aS aC aL H' b
  have h0 : (L2.start X.N [V.ref a])[0]? = some (some (.ref a)) := by
    rw [o.N, hN]
    rfl
  refine ⟨.ref a, h0, Nat.zero_le _, fun p hp => ?_⟩
  have e1 : Ex2 H (upd H p (.lst [])) := ex_upd (fun _ _ z => z) hp
  have s1 : SqL X.K (upd H p (.lst [])) a (ns.map V.int) := by
    rcases hl with (z | ⟨ob, z⟩) | z
    · exact .inl (.inl (e1 _ _ z))
    · exact .inl (.inr ⟨ob, e1 _ _ z⟩)
    · exact .inr z
  refine ⟨.list (ns.map PyData.int), .list [], .lst s1 (dp_ints ns), .lst (SqL.of (by rw [upd_same])) .nil, PySem.W.ke_shaped_ints ns, by decide +kernel, _, rfl, ?_⟩
  rw [eqv_nil]
  dsimp only
  by_cases hns : ns = []
  · have ek : (!decide (ns = [])) = false := by simp [hns]
    rw [ek, if_neg (by decide)]
    refine ⟨by show 1 ≤ sizeLine; decide, fun l hl' => fin l _ (ex_upd e1 (by
      cases z : H l with
      | none => rfl
      | some u => rw [e1 _ _ z] at hl'; cases hl')) (by
      cases z : H l with
      | none => rfl
      | some u => rw [e1 _ _ z] at hl'; cases hl') (by rw [upd_same, cells0, if_pos hns]; rfl)⟩
  · have ek : (!decide (ns = [])) = true := by simp [hns]
    rw [ek, if_pos rfl]
    refine ⟨.ref a, h0, a, _, rfl, .inl s1, fun l hl' => fin l _ (ex_upd e1 (by
      cases z : H l with
      | none => rfl
      | some u => rw [e1 _ _ z] at hl'; cases hl')) (by
      cases z : H l with
      | none => rfl
      | some u => rw [e1 _ _ z] at hl'; cases hl') (by rw [upd_same, cells0, if_neg hns])⟩
end
end Mp
end
section
set_option
                                                                                                    maxHeartbeats 1000000
/-! Mp: the law's own end. -/
namespace Mp
open PySem PySem.Spec
                                                                                                    PyProof.Rows L2 LamX

/-- the law's call, where no repr is around; ts: the code objects and their tables -/
theorem law_g {P : Program} {w : PySem.World} {K : PySem.W.Frag} {mg mb : Str → Option Value} {CX : CXT} {k : Nat} {fa a : Addr} {ts : List (Addr × Addr)} {fd : FuncData} {x : Str} {sp : Sp} {t : Shared} {vs : List Value} {ns : List Int}
    (KI : K.In t.heap) (gm : t.heap.Ns mainGlobals mg) (gb : t.heap.Ns builtinsNs mb) (bb : ∀ y : Str, y ≠ "__name__" → mb y = bootBuiltins y) (nl : t.heap.NoLimit) (ng : t.gens = #[])
    (em : ∀ p ∈ ts, t.heap.get? p.2 = some { cls := .none, data := .fields #[] }) (nk : ∀ p ∈ ts, K.lookup p.2 = none) (hd : ∀ p ∈ ts, PySem.W.CodeHd t.heap p.1 p.2)
    (bm : ∃ (m : Addr) (o : Obj), mg "__builtins__" = some (.ref m) ∧ m ≠ builtinsNs ∧ t.heap.get? m = some o ∧ o.cls = .type "module" ∧ o.dict = some builtinsNs ∧ o.data = .plain)
    (la : t.heap.get? a = some { cls := .type "list", data := .seq vs.toArray }) (iv : IntsAre vs ns) (sz : ns.length ≤ sizeLine) (rm : RoomG k callerA)
    (fn : ∀ base : Heap, K.In base → base.Ns mainGlobals mg → (∀ p ∈ ts, TabB base mg p.1 p.2) → FnG P w K mg base CX k fa fd [x] sp) (bd : ∀ (s : Shared) (u : Value), BindsTo s fd ⟨[u], []⟩ [(x, u)])
    (pr : ∀ H : Hp, (∀ p ∈ ts, H p.2 = some (.tbl #[])) → SqL K H a (ns.map V.int) → sp [.ref a] H (fun v _ => v = .bl true) fun _ _ _ => False) (nc : ∀ H e s', CX [] H t (fun _ _ _ => False) e s' → False) :
    codeAny (model P w) callerA (.call (.ref fa) ⟨[.ref a], []⟩) (fun r s' => r = .ok (.ret (.bool true)) ∧ OldK t.heap s'.heap ∧ s'.os = t.os ∧ AllBare s'.gens) t := by
  have rel := vals_ints iv
  have lv := iv.length
  let T := ts.map (·.2)
  have inT : ∀ p ∈ ts, p.2 ∈ T := fun p hp => List.mem_map.mpr ⟨p, hp, rfl⟩
  have empT : ∀ b ∈ T, t.heap.get? b = some { cls := .none, data := .fields #[] } := fun b hb => by
    obtain ⟨p, hp, rfl⟩ := List.mem_map.mp hb
    exact em p hp
  have notK : ∀ b ∈ T, K.lookup b = none := fun b hb => by
    obtain ⟨p, hp, rfl⟩ := List.mem_map.mp hb
    exact nk p hp
  have aT : a ∉ T := fun z => by
    have q := empT a z
    rw [la] at q
    cases congrArg Obj.data (Option.some.inj q)
  have main : ∀ H : Hp, (∀ b ∈ T, H b = some (.tbl #[])) → (∀ b, b ∉ T → H b = none ∨ (b = a ∧ K.lookup a = none ∧ ∃ o xs, H b = some (.frz o (.lst xs)))) → SqL K H a (ns.map V.int) → HOk P w H t.heap →
      codeAny (model P w) callerA (.call (.ref fa) ⟨[.ref a], []⟩) (fun r s' => r = .ok (.ret (.bool true)) ∧ OldK t.heap s'.heap ∧ s'.os = t.os ∧ AllBare s'.gens) t := by
    intro H hT hO hS hok
    have off : ∀ {b : Addr} {o : Obj}, t.heap.get? b = some o → (∀ us n, o.data ≠ .seq us n) → o.data ≠ .fields #[] → H b = none := fun {b o} e n1 n2 => by
      by_cases hb : b ∈ T
      · rw [empT b hb] at e
        cases e
        exact absurd rfl n2
      · rcases hO b hb with z | ⟨rfl, _⟩
        · exact z
        · rw [la] at e
          cases e
          exact absurd rfl (n1 _ _)
    have low : ∀ {b : Addr} {o : Obj}, t.heap.get? b = some o → H b = none → (hidT t.heap H).get? b = some o := fun e n => hidT_get e n
    have ns' : ∀ {b : Addr} {m : Str → Option Value}, t.heap.Ns b m → (hidT t.heap H).Ns b m := fun {b m} ⟨o, es, ep, e, d, r⟩ => ⟨o, es, ep, low e (off e (fun us n z => by rw [d] at z; cases z) fun z => by rw [d] at z; cases z), d, r⟩
    have kin : K.In (hidT t.heap H) := fun b o e => low (KI b o e) (by
      by_cases hb : b ∈ T
      · rw [notK b hb] at e
        cases e
      · rcases hO b hb with z | ⟨rfl, z, _⟩
        · exact z
        · rw [e] at z
          cases z)
    have md : L2.Mod K mg (hidT t.heap H) := ⟨kin, ns' gm, ⟨mb, ns' gb, bb⟩, let ⟨mc, q1, q2⟩ := nl; ⟨mc, ns' q1, q2⟩⟩
    have tb : ∀ p ∈ ts, TabB (hidT t.heap H) mg p.1 p.2 := fun p hp => by
      have ep := em p hp
      have hm := gm
      obtain ⟨og, eg, pg, e0, d0, r0⟩ := hm
      have nG : p.2 ≠ mainGlobals := fun z => by
        rw [← z, ep] at e0
        cases e0
        cases d0
      refine ⟨?_, ?_, Ne.symm nG⟩
      · obtain ⟨o, us, file, tf, flags, tg, inF, text, tt, e1, r1, r2⟩ := hd p hp
        exact ⟨o, us, file, tf, flags, tg, inF, text, tt, low e1 (off e1 (fun us n z => by rw [r2.1] at z; cases z) fun z => by
          have q := r2.2.1
          rw [r2.1] at z
          cases z
          simp at q), r1, r2⟩
      · obtain ⟨m, o, b1, b2, b3, b4, b5, b6⟩ := bm
        refine ⟨m, o, b1, b2, fun z => ?_, fun z => ?_, low b3 (off b3 (fun us n z => by rw [b6] at z; cases z) fun z => by rw [b6] at z; cases z), b4, b5, b6⟩
        · rw [z, e0] at b3
          cases b3
          rw [d0] at b6
          cases b6
        · rw [z, ep] at b3
          cases b3
          cases b6
    have e0 : Env0 P w K mg (hidT t.heap H) callerA [] t H := ⟨rfl, md, fun b o e => of_hidT e, Nat.le_of_eq (hidT_size _ _), trivial, fun b hb => absurd (show b ∈ ([] : List Addr) from hb) (by simp), hok, .of_eq ng⟩
    refine codeAny_mono ((fn _ kin (ns' gm) tb).run callerA [] t H ⟨[.ref a], []⟩ [.ref a] [.ref a] _ _ rm e0 (bd t (.ref a)) (.cons rfl .nil) (pr H (fun p hp => hT _ (inT p hp)) hS)) fun r s' h => ?_
    cases r with
    | error e => exact (nc H e s' h).elim
    | ok fl =>
      cases fl with
      | next => exact False.elim h
      | brk => exact False.elim h
      | cont => exact False.elim h
      | ret u =>
        obtain ⟨v, H', os, bare, un, hok', rv, q⟩ := h
        obtain rfl : v = .bl true := q
        obtain rfl : u = Value.bool true := rv
        have kept : ∀ b o, b ∉ T → t.heap.get? b = some o → s'.heap.get? b = some o := fun b o nb e => by
          rcases hO b nb with z | ⟨_, _, ob, xs, z⟩
          · exact un.keep b o e z (by intro z; exact absurd (show b ∈ ([] : List Addr) from z) (by simp)) (by simp)
          · have z1 := (hok b _ z).1
            have z2 := (hok' b _ (un.frzs b ob _ z)).1
            rw [e] at z1
            cases z1
            exact z2
        have more : ∀ b ∈ T, ∃ m : Array Value, s'.heap.get? b = some { cls := .none, data := .fields m } := fun b hb => by
          obtain ⟨m, z⟩ := un.tbls b #[] (hT b hb)
          exact ⟨_, hok' b _ z⟩
        refine ⟨rfl, ⟨fun b o e => ?_,
                                                                                                    fun b o e => ?_⟩, os, bare⟩
        · by_cases hb : b ∈ T
          · obtain ⟨p, hp, ep⟩ :=
                                                                                                    List.mem_map.mp hb
            obtain ⟨m, hm⟩ := more b hb
            rw [empT b hb] at e
            cases e
            have ic := ((hd p hp).tab (em p hp)).isCodeTable
            rw [ep] at ic
            exact .inr (.inl ⟨ic, rfl, #[], m, rfl, by rw [Array.empty_append]; exact hm⟩)
          · exact .inl (kept b o hb e)
        · by_cases hb : b ∈ T
          · obtain ⟨m, hm⟩ := more b hb
            exact ⟨_, hm⟩
          · exact ⟨o, kept b o hb e⟩
  cases hk : K.lookup a with
  | some o =>
    have e := KI a o hk
    rw [la] at e
    cases e
    refine main (fun b => if b ∈ T then some (.tbl #[]) else none) (fun b hb => if_pos hb) (fun b hb => .inl (if_neg hb)) (.inr ⟨_, vs.toArray, _, hk, rfl, rfl, rfl, by rw [List.size_toArray, lv]; exact sz, by simpa using rel⟩) fun b u z => ?_
    by_cases hb : b ∈ T
    · cases (if_pos hb).symm.trans z
      exact empT b hb
    · cases (if_neg hb).symm.trans z
  | none =>
    refine main (fun b => if b = a then some (.frz { cls := .type "list", data := .seq vs.toArray } (.lst (ns.map V.int))) else if b ∈ T then some (.tbl #[]) else none) (fun b hb => (if_neg (show ¬ b = a from fun z => aT (by rw [← z]; exact hb))).trans (if_pos hb)) (fun b hb => ?_)
      (.inl (.inr ⟨{ cls := .type "list", data := .seq vs.toArray }, if_pos rfl⟩)) fun b u z => ?_
    · by_cases e : b = a
      · exact .inr ⟨e, hk, _, _, if_pos e⟩
      · exact .inl ((if_neg e).trans (if_neg hb))
    · by_cases e : b = a
      · cases (if_pos e).symm.trans z
        rw [e]
        exact ⟨la, by rw [List.length_map]; exact sz, vs, _, rel, la⟩
      · by_cases hb : b ∈ T
        · cases (if_pos hb).symm.trans ((if_neg e).symm.trans z)
          exact empT b hb
        · cases (if_neg hb).symm.trans ((if_neg e).symm.trans z)
/-- what is known of the law's promise -/
def LawG (l : PySem.W.OpenLaw) (w : PySem.World) (K : PySem.W.Frag) (CX : CXT) (k n : Nat) (x : Str) (mg : Str → Option Value) (fa : Addr) (h : Heap) : Prop :=
  ∃ (fd : FuncData) (ts : List (Addr × Addr)) (sp : Sp), ((∀ p ∈ ts, h.get? p.2 = some { cls := .none, data := .fields #[] }) ∧ (∀ p ∈ ts, K.lookup p.2 = none) ∧ (∀ p ∈ ts, PySem.W.CodeHd h p.1 p.2)) ∧ (∀ (s : Shared) (u : Value), BindsTo s fd ⟨[u], []⟩ [(x, u)]) ∧
    (∀ (H : Hp) (a : Addr) (ns : List Int), ns.length ≤ n → (∀ p ∈ ts, H p.2 = some (.tbl #[])) → SqL K H a (ns.map V.int) → sp [.ref a] H (fun v _ => v = .bl true) fun _ _ _ => False) ∧
    ∀ base : Heap, K.In base → base.Ns mainGlobals mg → (∀ p ∈ ts, TabB base mg p.1 p.2) → FnG l.prog w K mg base CX k fa fd [x] sp
theorem walk_g {l : PySem.W.OpenLaw} {n k : Nat} {q : Program} {loose : List Str} {XP : (Str → Option Value) → Heap → Prop} {YP : PySem.World → Heap → Prop} {d : DefRec} {CX : CXT} {x : Str} (hn : l.most = some n) (n2 : n ≤ sizeLine) (df : d.params.defaults = []) (rm : RoomG k callerA)
    (F : ∀ (w : PySem.World) (mg : Str → Option Value) (fa : Addr) (h : Heap), YP w h → h.Ns mainGlobals mg → mg d.name = some (.ref fa) → ∃ K : PySem.W.Frag, K.In h ∧ LawG l w K CX k n x mg fa h) (nc : ∀ (H : Hp) (s : Shared) (e : Value) (s' : Shared), CX [] H s (fun _ _ _ => False) e s' → False) :
    PySem.W.WalkO q loose XP YP l.row.toRowW d []
                                                                                                    (fun f vs => PySem.call f vs) := by
  refine Att.attach_callB hn df fun w s0 t mg mb fa o pm cd doc a vs ns G Y ho hd hcd hmg hobj hints hlen hbits hg => ?_
  obtain ⟨K, KI, fd, ts, sp, ⟨t1, t2, t3⟩, hb, hsp, hF⟩ := F w mg fa _ Y G.T.g hmg
  exact law_g KI G.T.g G.T.b G.T.builtins G.T.nolimit hg t1 t2 t3 G.T.bmain hobj hints (Nat.le_trans hlen n2) rm hF hb (fun H hH hS => hsp H a ns hlen hH hS) fun H e s' => nc H t e s'
end Mp
end
section
/-! Mp: the law as a def. -/
namespace Mp
open PySem PySem.Spec
                                                                                                    PyProof.Rows L2

/-- a call with one value, its promise as it stands -/
theorem pe_one {X : Cx} {k : Nat} {f : Addr} {fd : FuncData} {x0 x : Str} {sp : Sp} {e : Expr} {ta : TE} {p pos : Pos} (F : FnG X.prog X.w X.K X.mg X.base CX0 k f fd [x0] sp) (hr : RoomG k X.A) (hg : Gl X x) (hm : X.mg x = some (.ref f)) (kp : PySem.W.keepIn X.K (.ref f) = true) (hb : BindP X.K fd [x0] 1 [] [])
    (ha : PE X e ta) (hs : noStar [e] = true) (hdb : (x == ("__debug__" : Str)) = false) : PE X (.Call (.Name x p) [e] [] pos) (fun σ H Q => ta σ H fun v H1 => sp [v] H1 Q E0) := by
  obtain ⟨k1, k2, k3⟩ := kw_some (env := X.env) (pos := pos) (kws := []) (ks := []) rfl
  refine ⟨fun pins s
                                                                                                    σ H Q I h => ?_⟩
  refine wpAny_Call_Name_kw
                                                                                                    (ld_glob I hg hm ?_ hdb)
  obtain ⟨s1, s2⟩ := star_one (env := X.env) hs
  refine PySem.W.callWith_KW (h₀ := X.base) I.ok.mod.kin kp k1 (thn ((pa_cons ha pa_nil s1).run pos pins s σ H (fun vs H1 => sp vs H1 Q E0) I h) fun us t ⟨vs, H1, I1, r1, q1⟩ => ?_) (by rw [star_any hs, k3]; rfl) s1
  have lv : vs.length = 1 := F.len _ _ _ _ q1
  exact thn (pk_nil.run pos pins t σ H1 (fun zs H2 => zs = [] ∧ sp vs H2 Q E0) I1 ⟨rfl, q1⟩) fun ws s2 ⟨zs, H2, I2, r2, ez, q2⟩ => ⟨I2.kIn, by
    subst ez
    rw [(kw_some (env := X.env) (pos := pos) (kws := []) (ks := []) rfl).2.1]
    exact run_g (ks := []) (perm := []) F hr hb pass0 I2 r1 r2 (by show us.length = 1; rw [← r1.length]; exact lv) (by cases r2; rfl) (show some (vs ++ []) = some vs by rw [List.append_nil]) q2⟩
/-- the law: what is asked of its script -/
def spL (K : PySem.W.Frag) (W : Wp) : Sp := fun vs H Q E => vs.length = 1 ∧ ∃ (a : Addr) (ns : List Int), vs = [.ref a] ∧ SqL K H a (ns.map V.int) ∧ ns.length ≤ 90 ∧ (∀ T ∈ W.tabs, H T = some (.tbl #[])) ∧ (∀ p ∈ W.ltabs, H p.1 = some (.tbl #[])) ∧ ∀ H', Q (.bl true) H'
def st0 (ns : List Int) : S := ⟨cells0 ns, lefts0 ns, 0⟩
def env0 (m : Nat) : Env := (List.replicate m none).set 1 (some (.st, false))
theorem env_law {W : Wp} {ns : List Int} {aS aC aL : Addr} {H H' : Hp} {m : Nat} {σ : L2.St} (b : Beg ns aS aC aL H H') (hn : ns.length ≤ 90) (t1 : ∀ T ∈ W.tabs, H T = some (.tbl #[])) (t2 : ∀ p ∈ W.ltabs, H p.1 = some (.tbl #[])) (hl : σ.length = m) (hσ : σ[1]? = some (some (.ref aS))) :
    EnvAt W ⟨⟨aS, aC, aL, b.ne⟩, [aS, aL], H', []⟩ [] (env0 m) (st0 ns) σ H' := by
  have lc : (cells0 ns).length ≤ 90 ∧ 0 < (cells0 ns).length := by
    unfold cells0
    split
    · exact ⟨by decide, by decide⟩
    · rename_i h
      exact ⟨hn, List.length_pos_iff.mpr h⟩
  have w : Wld W ⟨aS, aC, aL, b.ne⟩ (st0 ns) H' := ⟨b.s, b.c, b.l, by show (lefts0 ns).length = (cells0 ns).length; unfold lefts0; rw [List.length_map], lc.2, Nat.le_trans lc.1 (by decide), Int.le_refl 0, fun T hT => ⟨#[], b.ex _ _ (t1 T hT), trivial⟩, fun p hp => ⟨#[], b.ex _ _ (t2 p hp), trivial, fun pos cv z => by cases z⟩⟩
  have get : ∀ (i : Nat) (d : D) (f : Bool), (env0 m)[i]? = some (some (d, f)) → i = 1 ∧ d = .st ∧ f = false := fun i d f e => by
    unfold env0 at e
    by_cases hi : i = 1
    · subst hi
      have lt : 1 < (List.replicate m (none : Option Slot)).length := by
        have := (List.getElem?_eq_some_iff.mp e).1
        rwa [List.length_set] at this
      rw [List.getElem?_set_self lt] at e
      cases e
      exact ⟨rfl, rfl, rfl⟩
    · rw [List.getElem?_set_ne (Ne.symm hi), List.getElem?_replicate] at e
      split at e <;> cases e
  refine ⟨by simp, by simp, ⟨_, w⟩, fun a ha => ?_, .refl _ _, w, by unfold env0; rw [List.length_set, List.length_replicate, hl], fun p hp => (by cases hp), fun p hp => (by cases hp), fun i j a hp => (by cases hp), fun i d e => ?_, fun i d e => ?_, fun q hq => (by cases hq)⟩
  · rcases List.mem_cons.mp ha with z | z
    · rw [z]
      exact .inr ⟨_, b.s⟩
    · rw
                                                                                                    [List.mem_singleton.mp z]
      exact .inl ⟨_, b.l⟩
  · exact absurd (get i d true e).2.2 (by decide)
  · obtain ⟨rfl, rfl, _⟩ := get i d false e
    exact ⟨_, hσ, rfl⟩
section
variable {P : Program} {w : PySem.World} {K : PySem.W.Frag} {mg : Str → Option Value} {base : Heap} {gi : Gi} {W : Wp} {tab : Str → Option Fn}
theorem law_fn {n kb : Nat} {st : Stmt} {fa fb : Addr} {fd fdb : FuncData} {N : List Str} {x0 : Str} {gen : Bool} {cs : List C} {rest : List Stmt} {p1 p2 p3 p4 p5 : Pos} (a : AllOk P w K mg base gi W (callF tab n) (6 * n)) (m : ModH mg gi) (hk : kb ≤ 6 * n)
    (FB : FnG P w K mg base CX0 kb fb fdb [x0] (spB K)) (gb : mg "_law_begin" = some (.ref fb)) (kp : PySem.W.keepIn K (.ref fb) = true) (bb : BindP K fdb [x0] 1 [] []) (F : FunX K "law" st fa fd) (hs : C8.scC ("script" :: "state" :: N) ["script"] (C8.fnScope st) = true)
    (hB : (visB (C8.fnScope st) "script" && okN "script" && locB (C8.fnScope st) "state" && glbB (C8.fnScope st) "_law_begin") = true) (hb : C8.fnBody st = .Assign [.Name "state" p1] (.Call (.Name "_law_begin" p2) [.Name "script" p3] [] p4) p5 :: rest) (tb : gen = true → TabH base mg W fd.code)
    (hr : ∀ E X, Ok gi W (callF tab n) (6 * n) ⟨"script" :: "state" :: N, C8.fnScope st, gen, true, 5⟩ X → PSs X rest (tSs W (callF tab n) cs E))
    (ev : ∀ ns : List Int, ns.length ≤ 90 → ∃ s', evCs (callF tab n) cs (env0 (N.length + 2)) (st0 ns) = .ok (.rt (.bl true)) s') : FnG P w K mg base CX0 (6 * (n + 1)) fa fd ["script"] (spL K W) := by
  have S := C8.fnScope_by hs
  obtain ⟨oc, od, dV, kV, doc, pm, an, cdv, ct, osl, e, lk, hcd, _, _⟩ := F.ex
  subst e
  refine ⟨fun vs H Q E h => h.1, fun A outer s H args us vs Q E rm e0 hbd rv hsp => ?_⟩
  obtain ⟨hl, b, ns, rfl, hS, hn, t1, t2, hQ⟩ := hsp
  refine LamX.run_ofS lk hcd S rm.r e0 hbd rv hl fun _ => ?_
  have rm' : RoomG (6 * n + 5) (A.deeper (envOfC "law" (C8.fnScope st) s.heap.objs.size fa cdv)) := rm.deeper _
  have o := ok_of (E := E) (outer := outer) (H := H) a m S.nd rm' tb
  have c := hB
  simp only [Bool.and_eq_true] at c
  obtain ⟨⟨⟨c1, c2⟩, c3⟩, c4⟩ := c
  have pb := pe_one (p := p2) (pos := p4) (F := FB) (X := (cxOf CX0 P w K mg base ("script" :: "state" :: N) "law" (C8.fnScope st) fa cdv A outer s H E).nox) (rm'.mono (by omega)) (o.gl c4) gb kp bb (pe_var (i := 0) (pos := p3) rfl (vis_of c1) (okN_of c2).db (okN_of c2).cd) rfl (by decide +kernel)
  have all := pss_cons (ps_set (i := 1) (pos' := p1) (pos := p5) o.nd rfl (loc_of c3) pb (sw_none rfl) (.inl (o.fn rfl "state"))) (hr E0 _ o)
  rw [hb]
  refine ⟨_, all.nox, ?_⟩
  refine ⟨.ref b, start_get rfl, rfl, b, ns, rfl, hS, hn, fun aS aC aL H' bg => ?_⟩
  obtain ⟨s', es⟩ := ev ns hn
  refine ⟨_, [], env0 (N.length + 2), st0 ns, env_law bg hn t1 t2 ?_ ?_, ?_⟩
  · rw [List.length_set, start_len (by show 1 ≤ N.length + 2; omega)]
    rfl
  · exact List.getElem?_set_self (by rw [start_len (by show 1 ≤ N.length + 2; omega)]; show 1 < N.length + 2; omega)
  · rw [es]
    exact fun v H1 g w1 r => by
      obtain rfl : v = .bl true := r
      exact hQ H1
end
end Mp
end
section
/-! Mp: a module's defs, all of them. -/
namespace Mp
open PySem PySem.Spec
                                                                                                    PyProof.Rows L2

abbrev Pat := Nat × List Str × List Nat
/-- a module, statically: its defs, the one that makes lambdas, the lambdas -/
structure Mdl where
  ds : List (DefS × List Pat)
  wt : DefS × List Pat
  lams : List (Str × Fn)
  nums : List (Str × Int)
  blt : List Str
def Mdl.all (M : Mdl) : List (DefS × List Pat) := M.wt :: M.ds
def Mdl.gi (M : Mdl) : Gi := ⟨M.all.map fun p => (p.1.x, p.2), M.nums, M.blt⟩
def Mdl.tab (M : Mdl) (x : Str) : Option Fn := match M.all.find? fun p => decide (p.1.x = x) with
  | some p => some (.code p.1.ps.length p.1.N.length p.1.cs)
  | none => M.lams.lookup x
def Mdl.chk (M : Mdl) : Bool := decide ((M.all.map fun p => p.1.x).Nodup) && M.all.all fun p => C8.scC p.1.N p.1.ps (C8.fnScope p.1.st) && decide (p.1.ps.length ≤ p.1.N.length)
theorem find_nd {l : List (DefS × List Pat)} (nd : (l.map fun p => p.1.x).Nodup) {p : DefS × List Pat} (hp : p ∈ l) : l.find? (fun q => decide (q.1.x = p.1.x)) = some p := by
  induction l with
  | nil => cases hp
  | cons a l ih =>
    rw [List.map_cons,
                                                                                                    List.nodup_cons] at nd
    rcases List.mem_cons.mp hp with rfl | z
    · rw [List.find?_cons_of_pos (by simp)]
    · rw [List.find?_cons_of_neg (by simpa using fun e => nd.1 (by rw [e]; exact List.mem_map.mpr ⟨p, z, rfl⟩))]
      exact ih nd.2 z
structure MChk (M : Mdl) : Prop where
  nd : (M.all.map fun p => p.1.x).Nodup
  sc : ∀ p ∈ M.all, C8.scC p.1.N p.1.ps (C8.fnScope p.1.st) = true
  len : ∀ p ∈ M.all, p.1.ps.length ≤ p.1.N.length
theorem mchk {M : Mdl} (h : M.chk = true) : MChk M := by
  unfold Mdl.chk at h
  simp only [Bool.and_eq_true, decide_eq_true_eq, List.all_eq_true] at h
  exact ⟨h.1, fun p hp => (h.2 p hp).1, fun p hp => (h.2 p hp).2⟩
theorem MChk.tab {M : Mdl} (c : MChk M) {p : DefS × List Pat} (hp : p ∈ M.all) : M.tab p.1.x = some (.code p.1.ps.length p.1.N.length p.1.cs) := by
  unfold Mdl.tab
  rw [find_nd c.nd hp]
/-- the compiler's answers, by def -/
def compOf (gi : Gi) (W : Wp) (Γ : Gam) (K0 : Nat) (d : DefS) : List C := (sAll (gi := gi) (W := W) (Γ := Γ) (K0 := K0) d.ct ((comp 60).S d.ct) (C8.fnBody d.st)).cs
section
variable {P : Program} {w : PySem.World} {K : PySem.W.Frag} {mg : Str → Option Value} {base : Heap} {M : Mdl} {W : Wp}
theorem all_ok (c : MChk M) (m : ModH mg M.gi) (hd : ∀ p ∈ M.all, ∃ f fd, DefH K mg p.1 p.2 f fd ∧ (p.1.gen = true → TabH base mg W fd.code)) (hc : ∀ (Γ : Gam) (K0 : Nat), ∀ p ∈ M.ds, compOf M.gi W Γ K0 p.1 = p.1.cs)
    (hw : ∀ n, AllOk P w K mg base M.gi W (callF M.tab n) (6 * n) → DefOk P w K mg base CX0 (6 * (n + 1)) W (callF M.tab (n + 1)) M.wt.1.x M.wt.2) (hl : ∀ n, AllOk P w K mg base M.gi W (callF M.tab n) (6 * n) → ∀ lx, LamOk P w K mg base CX0 (6 * (n + 1)) W (callF M.tab (n + 1)) lx) :
    ∀ n, AllOk P w K mg base M.gi W (callF M.tab n) (6 * n)
  | 0 => ⟨fun p hp => by
      obtain ⟨r, hr, rfl⟩ :=
                                                                                                    List.mem_map.mp hp
      obtain ⟨f, fd, h, _⟩ := hd r hr
      exact def_zero h.g h.F.kp h.b, fun lx => lam_zero⟩
  | n + 1 => by
      have a := all_ok c m hd hc hw hl n
      refine ⟨fun p hp => ?_, hl n a⟩
      obtain ⟨r, hr, rfl⟩ :=
                                                                                                    List.mem_map.mp hp
      rcases List.mem_cons.mp hr with rfl | z
      · exact hw n a
      · obtain ⟨f, fd, h, t⟩ := hd r hr
        refine def_up a m h (c.sc r hr) (c.len r hr) (c.tab hr) t fun E X o => ?_
        have e := hc (callF M.tab n) (6 * n) r z
        rw [← e]
        exact (sAll r.1.ct ((comp 60).S r.1.ct) (C8.fnBody r.1.st)).ok E X o
/-- one level up, more being known of the context -/
theorem def_up2 {gi : Gi} {tab : Str → Option Fn} {n : Nat} {d : DefS} {pats : List Pat} {f : Addr} {fd : FuncData} (a : AllOk P w K mg base gi W (callF tab n) (6 * n)) (m : ModH mg gi) (h : DefH K mg d pats f fd) (hs : C8.scC d.N d.ps (C8.fnScope d.st) = true) (hN : d.ps.length ≤ d.N.length) (ht : tab d.x = some (.code d.ps.length d.N.length d.cs))
    (tb : d.gen = true → TabH base mg W fd.code) (hb : ∀ E X, Ok gi W (callF tab n) (6 * n) d.ct X → X.env.code = fd.code → X.env.qual = d.x ++ ".<locals>." → X.base = base → X.mg = mg → PSs X (C8.fnBody d.st) (tSs W (callF tab n) d.cs E)) : DefOk P w K mg base CX0 (6 * (n + 1)) W (callF tab (n + 1)) d.x pats := by
  have S := C8.fnScope_by hs
  refine ⟨f, fd, d.ps, h.g, h.F.kp, ?_, h.b⟩
  exact fn_gD (k := 6 * n + 5) h.F S hN (fun ds hl => call_code ht hl) fun A outer s H E hr => hb E _ (ok_of a m S.nd hr tb) rfl rfl rfl rfl
end
end Mp
end
section
/-! Mp: what the head tells. -/
namespace Mp
open PySem PySem.Spec
                                                                                                    PyProof.Rows L2

def DefS.dd (d : DefS) : He.DefD := ⟨(d.x, none), d.x, d.x, C8.fnArgs d.st, C8.fnBody d.st, C8.fnScope d.st, [], []⟩
/-- all defs that are told of: the module's, then those that stand apart -/
def Mdl.told (M : Mdl) (more : List DefS) : List DefS := M.all.map (·.1) ++ more
def Mdl.fn (M : Mdl) (more : List DefS) : List He.DefD := (M.told more).map DefS.dd
def Mdl.fa (M : Mdl) (more : List DefS) : List He.Fa := ((M.told more).map fun d => He.Fa.glo d.x) ++ (M.blt.map He.Fa.free ++ M.nums.map fun p => He.Fa.int p.1 p.2)
def Mdl.gens (M : Mdl) (more : List DefS) : List He.Defn := ((M.told more).filter (·.gen)).map fun d => (d.x, none)
def Mdl.tf (M : Mdl) (more : List DefS) : List He.Defn := (M.wt.1.x, none) :: M.gens more
def Mdl.ex (M : Mdl) (more : List DefS) (K : PySem.W.Frag) : Bool := decide (((M.tf more).map fun p => (He.cT K p).2).Nodup)
def Mdl.wp (M : Mdl) (more : List DefS) (K : PySem.W.Frag) (mg : Str → Option Value) (lam : Str → Option LamD) (qn : Str) : Wp := ⟨mg, (M.gens more).map fun p => (He.cT K p).2, lam, [((He.cT K (M.wt.1.x, none)).2, qn)]⟩
section
variable {M : Mdl} {more : List DefS} {w : PySem.World} {h : Heap} {K : PySem.W.Frag} {mg : Str → Option Value}
abbrev HSays (M : Mdl) (more : List DefS) (w : PySem.World) (h : Heap) (K : PySem.W.Frag) : Prop := He.SaysX (M.fa more) (M.fn more) [] (M.tf more) (M.ex more) w h K
theorem says_mod (c : HSays M more w h K) (KI : K.In h) (G : h.Ns mainGlobals mg) : ModH mg M.gi :=
  ⟨fun p hp => He.int_ok KI G (c.t.d.facts (f := .int p.1 p.2) (List.mem_append_right _ (List.mem_append_right _ (List.mem_map.mpr ⟨p, hp, rfl⟩)))),
    fun x hx => He.free_ok KI G (c.t.d.facts (f := .free x) (List.mem_append_right _ (List.mem_append_left _ (List.mem_map.mpr ⟨x, hx, rfl⟩))))⟩
theorem says_def (c : HSays M more w h K) (KI : K.In h) (G : h.Ns mainGlobals mg) {d : DefS} (hd : d ∈ M.told more) : ∃ fd, mg d.x = some (.ref (He.ga K d.x)) ∧ FunX K d.x d.st (He.ga K d.x) fd ∧ fd.code = .ref (He.codeOf K (d.x, none)) := by
  have g := He.glo_ok KI G (c.t.d.facts (f := .glo d.x) (List.mem_append_left _ (List.mem_map.mpr ⟨d, hd, rfl⟩)))
  obtain ⟨fd, F⟩ := c.t.d.defs (d := d.dd) (List.mem_map.mpr ⟨d, hd, rfl⟩)
  have F' : FunX K d.x d.st (He.ga K d.x) fd := F
  refine ⟨fd, g, F', ?_⟩
  obtain ⟨oc, od, dV, kV, doc, pm, an, cdv, ct, osl, e, lk, hcd, _, _⟩ := F'.ex
  obtain ⟨cc, ec⟩ := He.codeIn_ref hcd
  subst e
  have ee : (PySem.W.fnOf d.x d.x (C8.fnArgs d.st) (C8.fnBody d.st) (C8.fnScope d.st) dV kV doc pm an cdv ct).code = cdv := rfl
  rw [ee, ec, He.codeOf_eq (p := (d.x, none)) lk (by rw [ee]; exact ec)]
theorem says_nd (c : HSays M more w h K) : ((M.tf more).map fun p => (He.cT K p).2).Nodup := of_decide_eq_true c.more
variable {base : Heap} {lam : Str → Option LamD} {qn : Str}
theorem says_tab (c : HSays M more w h K) (tb : ∀ p ∈ (M.tf more).map (He.cT K), LamX.TabB base mg p.1 p.2) {d : DefS} (hd : d ∈ M.told more) (hg : d.gen = true) {cd : Value} (e : cd = .ref (He.codeOf K (d.x, none))) : TabH base mg (M.wp more K mg lam qn) cd := by
  have hm : (d.x, none) ∈ M.gens more := List.mem_map.mpr ⟨d, List.mem_filter.mpr ⟨hd, hg⟩, rfl⟩
  refine ⟨_, _, tb (He.cT K (d.x, none)) (List.mem_map.mpr ⟨_, List.mem_cons_of_mem _ hm, rfl⟩), e, List.mem_map.mpr ⟨_, hm, rfl⟩, fun p hp z => ?_⟩
  have hp : p ∈ [((He.cT K (M.wt.1.x, none)).2, qn)] := hp
  rw [List.mem_singleton] at hp
  subst hp
  have nd := says_nd c
  unfold Mdl.tf at nd
  rw [List.map_cons,
                                                                                                    List.nodup_cons] at nd
  exact nd.1 (by
    have z : (He.cT K (M.wt.1.x, none)).2 = (He.cT K (d.x, none)).2 := z
    rw [z]
    exact List.mem_map.mpr ⟨_, hm, rfl⟩)
theorem says_ltab (c : HSays M more w h K) (tb : ∀ p ∈ (M.tf more).map (He.cT K), LamX.TabB base mg p.1 p.2) {cd : Value} (e : cd = .ref (He.codeOf K (M.wt.1.x, none))) : LTabH base mg (M.wp more K mg lam qn) cd qn := by
  refine ⟨_, _, tb (He.cT K (M.wt.1.x, none)) (List.mem_map.mpr ⟨_, List.mem_cons_self, rfl⟩), e, List.mem_singleton.mpr rfl, fun p hp z => ?_, fun z => ?_⟩
  · have hp : p ∈ [((He.cT K (M.wt.1.x, none)).2, qn)] := hp
    rw [List.mem_singleton] at hp
    rw [hp]
  · have nd := says_nd c
    unfold Mdl.tf at nd
    rw [List.map_cons,
                                                                                                    List.nodup_cons] at nd
    exact nd.1 z
end
/-! ### how values come to parameters -/
theorem perm_len {γ : Type} : ∀ {is : List Nat} {vs as : List γ}, pickL is vs = some as → as.length = is.length
  | [], _, _, h => by
    cases h
    rfl
  | i :: is, vs, as, h => by
    obtain ⟨v, e1, h⟩ := Option.bind_eq_some_iff.mp (show vs[i]?.bind (fun d => (pickL is vs).map (d :: ·)) = some as from h)
    obtain ⟨bs, e2, rfl⟩ := Option.map_eq_some_iff.mp h
    rw [List.length_cons, List.length_cons, perm_len e2]
theorem perm_ok {n : Nat} {ks : List Str} {perm : List Nat} {m : Nat} (h : (if perm = [] then n + ks.length else perm.length) = m) : ∀ vs : List V, vs.length = n + ks.length → ∀ as, permL perm vs = some as → as.length = m := fun vs hv as e => by
  cases perm with
  | nil =>
    cases e
    rw [← h, if_pos rfl, hv]
  | cons i r =>
    rw [← h, if_neg (by simp)]
    exact perm_len e
/-- a pattern's binding, by the text alone -/
theorem bind_by {K : PySem.W.Frag} {x : Str} {st : Stmt} {f : Addr} {fd : FuncData} {ps ks : List Str} {n : Nat} {perm : List Nat} (F : FunX K x st f fd)
    (h : ∀ (kV doc pm : Value) (an : Option Addr) (cdv ct : Value) (us ws as : List Value), us.length = n → ws.length = ks.length → permL perm (us ++ ws) = some as → bindArgs (PySem.W.fnOf x x (C8.fnArgs st) (C8.fnBody st) (C8.fnScope st) .none kV doc pm an cdv ct) ⟨us, ks.zip ws⟩ = pure (ps.zip as)) : BindP K fd ps n ks perm := by
  obtain ⟨oc, od, dV, kV, doc, pm, an, cdv, ct, osl, rfl, lk, hcd, hD, hK⟩ :=
                                                                                                    F.ex
  rcases hD
                                                                                                    with ⟨_, rfl⟩ | ⟨e, _⟩
  · exact ⟨fun s us ws as _ h1 h2 h3 => .of_eq (h kV doc pm an cdv ct us ws as h1 h2 h3)⟩
  · exact absurd rfl e
end Mp
end
section
/-! Mp: the def that hands on one of two lambdas. -/
namespace Mp
open PySem PySem.Spec
                                                                                                    PyProof.Rows L2

/-- what is asked of the text beside the lambdas -/
def wtB (gi : Gi) (ct : Ct) (x f : Str) (i : Nat) (e lam : Expr) : Bool :=
  decide (slotOf x ct.N = some i) && (noStar [e, lam] && locB ct.sc x && (ct.fn || decide (ct.sc.names.lookup x = some .local)) && glbB ct.sc f && okN f && noStar [e]) && (match patsOf f gi.defs with | some ps => decide ((2, [], []) ∈ ps) | none => false)
section
variable {gi : Gi} {W : Wp} {Γ : Gam} {K0 : Nat}
theorem wt_one {ct : Ct} {X : Cx} {E : XK} (o : Ok gi W Γ K0 ct X) {x f lx qn : Str} {i : Nat} {e : Expr} {a : Arguments} {b : Expr} {sc : Scope} {caps : List Nat} {p1 p2 p3 p4 lp : Pos} (hB : (lamB ct sc caps && wtB gi ct x f i e (.Lambda a b sc lp)) = true) (hl : W.lam lx = some ⟨qn, a, b, sc, freeNs sc.names []⟩) (hq : X.env.qual ++ "<lambda>" = qn)
    (ht : LTabH X.base X.mg W X.env.code qn) (hd : defaultsOf a X.env = ([], [])) : PS X (.Assign [.Name x p1] (.Call (.Name f p2) [e, .Lambda a b sc lp] [] p3) p4) (tS W Γ (.asg (.nm i) (.callL f [((comp (gi := gi) (W := W) (Γ := Γ) (K0 := K0) 60).E ct e).t] lx caps)) E) := by
  obtain ⟨h1, h2⟩ := (Bool.and_eq_true ..).mp hB
  obtain ⟨c, P, R⟩ := lam_r o h1 hl hq ht hd
  unfold wtB at h2
  obtain ⟨h3, h4⟩ := (Bool.and_eq_true ..).mp h2
  obtain ⟨h5, h6⟩ := (Bool.and_eq_true ..).mp h3
  cases hp : patsOf f gi.defs with
  | none =>
    rw [hp] at h4
    cases h4
  | some ps =>
    rw [hp] at h4
    exact s_lam o _ R (of_decide_eq_true h5) h6 hp (of_decide_eq_true h4)
/-- the whole of it -/
theorem wt_all {ct : Ct} {X : Cx} {E : XK} (o : Ok gi W Γ K0 ct X) {s0 s1 s2 s4 : Stmt} {t : Expr} {x f lx1 lx2 qn : Str} {i : Nat} {e1 e2 : Expr} {a1 a2 : Arguments} {b1 b2 : Expr} {sc1 sc2 : Scope} {caps : List Nat} {p1 p2 p3 p4 lp q1 q2 q3 q4 lq p5 : Pos}
    (hB1 : (lamB ct sc1 caps && wtB gi ct x f i e1 (.Lambda a1 b1 sc1 lp)) = true) (hB2 : (lamB ct sc2 caps && wtB gi ct x f i e2 (.Lambda a2 b2 sc2 lq)) = true) (hl1 : W.lam lx1 = some ⟨qn, a1, b1, sc1, freeNs sc1.names []⟩) (hl2 : W.lam lx2 = some ⟨qn, a2, b2, sc2, freeNs sc2.names []⟩) (hq : X.env.qual ++ "<lambda>" = qn)
    (ht : LTabH X.base X.mg W X.env.code qn) (hd1 : defaultsOf a1 X.env = ([], [])) (hd2 : defaultsOf a2 X.env = ([], [])) :
    PSs X [s0, s1, s2, .If t [.Assign [.Name x p1] (.Call (.Name f p2) [e1, .Lambda a1 b1 sc1 lp] [] p3) p4] [.Assign [.Name x q1] (.Call (.Name f q2) [e2, .Lambda a2 b2 sc2 lq] [] q3) q4] p5, s4]
      (tSs W Γ [((comp (gi := gi) (W := W) (Γ := Γ) (K0 := K0) 60).S ct s0).c, ((comp (gi := gi) (W := W) (Γ := Γ) (K0 := K0) 60).S ct s1).c, ((comp (gi := gi) (W := W) (Γ := Γ) (K0 := K0) 60).S ct s2).c,
        .iff ((comp (gi := gi) (W := W) (Γ := Γ) (K0 := K0) 60).T ct t).t [.asg (.nm i) (.callL f [((comp (gi := gi) (W := W) (Γ := Γ) (K0 := K0) 60).E ct e1).t] lx1 caps)] [.asg (.nm i) (.callL f [((comp (gi := gi) (W := W) (Γ := Γ) (K0 := K0) 60).E ct e2).t] lx2 caps)],
        ((comp (gi := gi) (W := W) (Γ := Γ) (K0 := K0) 60).S ct s4).c] E) :=
  ss_cons (((comp 60).S ct s0).ok E X o) (ss_cons (((comp 60).S ct s1).ok E X o) (ss_cons (((comp 60).S ct s2).ok E X o) (ss_cons (s_if (((comp 60).T ct t).ok E X o) (ss_cons (wt_one o hB1 hl1 hq ht hd1) ss_nil) (ss_cons (wt_one o hB2 hl2 hq ht hd2) ss_nil)) (ss_cons (((comp 60).S ct s4).ok E X o) ss_nil))))
end
end Mp
end
section
/-! Mp: the def that makes the state. -/
namespace Mp
open PySem PySem.Spec
                                                                                                    PyProof.Rows L2

section
variable {P : Program} {w : PySem.World} {K : PySem.W.Frag} {mg : Str → Option Value} {base : Heap} {gi : Gi} {W : Wp} {Γ : Gam}
theorem begin_fn {K0 : Nat} {x x0 x1 x2 : Str} {st : Stmt} {f : Addr} {fd : FuncData} {cs : Scope} {p1 p2 p3 p4 p5 p6 p7 p8 p9 p10 p11 p12 p13 p14 p15 p16 p17 p18 p19 p20 p21 p22 p23 p24 p25 p26 p27 p28 p29 : Pos} {k0 k1 k2 k3 k4 k5 k6 k7 : Nat}
    (a : AllOk P w K mg base gi W Γ K0) (m : ModH mg gi) (F : FunX K x st f fd) (hs : C8.scC [x0, x1, x2] [x0] (C8.fnScope st) = true) (hB : begB gi ⟨[x0, x1, x2], C8.fnScope st, false, true, 5⟩ x0 x1 x2 cs = true)
    (hb : C8.fnBody st = [.Assign [.Name x1 p1] (.IfExp (.Compare (.Name x0 p2) [.NotEq] [.List [] p3] p4) (.Call (.Name "list" p5) [.Name x0 p6] [] p7) (.List [.Constant (.int 0) k0 p8] p9) p10) p11,
      .Return (some (.Dict [some (.Constant (.str "cells") k1 p12), some (.Constant (.str "lefts") k2 p13), some (.Constant (.str "at") k3 p14)]
        [.Name x1 p15, .ListComp (.IfExp (.Compare (.Name x2 p16) [.GtE] [.BinOp (.Constant (.int 10) k4 p17) .Pow (.Constant (.int 18) k5 p18) p19] p20) (.Name x2 p21) (.Constant (.int 0) k6 p22) p23) [⟨.Name x2 p24, .Name x1 p25, [], 0⟩] cs p26, .Constant (.int 0) k7 p27] p28)) p29]) :
    FnG P w K mg base CX0 (K0 + 6) f fd [x0] (spB K) := by
  have S := C8.fnScope_by hs
  obtain ⟨oc, od, dV, kV, doc, pm, an, cdv, ct, osl, e, lk, hcd, _, _⟩ := F.ex
  subst e
  refine ⟨fun vs H Q E h => h.1, fun A outer s H args us vs Q E rm e0 hbd rv hsp => ?_⟩
  obtain ⟨hl, b, ns, rfl, hS, hn, hQ⟩ := hsp
  refine LamX.run_ofS lk hcd S rm.r e0 hbd rv hl fun _ => ?_
  have rm' : RoomG (K0 + 5) (A.deeper (envOfC x (C8.fnScope st) s.heap.objs.size f cdv)) := rm.deeper _
  have o := ok_of (E := E) (outer := outer) (H := H) (gen := false) a m S.nd rm' (fun h => by cases h)
  rw [hb]
  obtain ⟨t, h1, h2⟩ := begin_ps o rfl hB (a := b) (ns := ns) (H := H) (Q := Q) hS hn hQ
  exact ⟨t, h1.nox, h2⟩
end
end Mp
end
section
set_option maxHeartbeats 0
namespace Lf
open PySem PySem.Spec PyProof.Rows L2 Mp
def top (i : Nat) : Stmt := PySem.Challenge.pw_leaftold_k03_whole_some_leaves_alone.main.body.getD i (.Pass ⟨0, 0, 0, 0⟩)
def c_is_whole : List C := [(.ret (.an (.isi (.var 0) "int") (.nt (.isi (.var 0) "bool"))))]
def c_is_number : List C := [(.ret (.an (.call "is_whole" [(.var 0)] []) (.chn .LtE .LtE (.var 1) (.var 0) (.var 2))))]
def c_is_set : List C := [(.iff (.orr (.nt (.isi (.var 0) "tuple")) (.nt (.aal true (.nm 2) .val [(.var 0)] (.call "is_number" [(.var 2), (.con (.int 0)), (.bin .Sub (.var 1) (.con (.int 1)))] [])))) [(.ret (.con (.bl false)))] []), (.ret (.aal true (.nm 3) .rng [(.con (.int 1)), (.bi .len [(.var 0)])] (.cmp .Lt (.ix (.var 0) (.bin .Sub (.var 3) (.con (.int 1)))) (.ix (.var 0) (.var 3)))))]
def c_need_set : List C := [(.iff (.orr (.nt (.call "is_set" [(.var 0), (.var 1)] [])) (.cmp .Lt (.bi .len [(.var 0)]) (.var 2))) [.never] []), (.ret (.var 0))]
def c_everything : List C := [(.ret (.rgc true [(.var 0)]))]
def c_without : List C := [(.ret (.bi .tup [(.lc (.nm 2) .val [(.var 0)] (some (.cmp .NotIn (.var 2) (.var 1))) (.var 2))]))]
def c_common : List C := [(.ret (.bi .tup [(.lc (.nm 2) .val [(.var 0)] (some (.cmp .In (.var 2) (.var 1))) (.var 2))]))]
def c_within : List C := [(.ret (.aal true (.nm 2) .val [(.var 0)] (.cmp .In (.var 2) (.var 1))))]
def c_order_of : List C := [(.ret (.tup [(.bi .len [(.var 0)]), (.var 0)]))]
def c_in_order : List C := [(.ret (.bi .tup [(.srtk "order_of" (.bi .srts [(.var 0)]))]))]
def c_first_wrong : List C := [(.iff (.nt (.isi (.var 0) "tuple")) [(.ret (.tup []))] []), (.for_ (.tp [(.nm 2), (.nm 3)]) .enm [(.var 0)] [(.iff (.orr (.nt (.callv 1 [(.var 3)])) (.an (.cmp .Gt (.var 2) (.con (.int 0))) (.cmp .GtE (.call "order_of" [(.ix (.var 0) (.bin .Sub (.var 2) (.con (.int 1))))] []) (.call "order_of" [(.var 3)] [])))) [(.ret (.tup [(.var 2)]))] [])]), (.ret (.con .non))]
def c_is_split : List C := [(.ret (.an (.call "is_set" [(.var 0), (.var 1)] []) (.an (.cmp .NotEq (.var 0) (.tup [])) (.cmp .NotIn (.con (.int 0)) (.var 0)))))]
def c_is_trivial : List C := [(.ret (.cmp .In (.bi .len [(.var 0)]) (.tup [(.con (.int 1)), (.bin .Sub (.var 1) (.con (.int 1)))])))]
def c_side_of : List C := [(.ret (.ite (.cmp .In (.con (.int 0)) (.var 0)) (.call "without" [(.call "everything" [(.var 1)] []), (.var 0)] []) (.var 0)))]
def c_do_fit : List C := [(.ret (.orr (.cmp .Eq (.call "common" [(.var 0), (.var 1)] []) (.tup [])) (.orr (.call "within" [(.var 0), (.var 1)] []) (.call "within" [(.var 1), (.var 0)] []))))]
def c_is_inner_split : List C := [(.ret (.an (.call "is_split" [(.var 0), (.var 1)] []) (.nt (.call "is_trivial" [(.var 0), (.var 1)] []))))]
def c_is_cluster : List C := [(.ret (.an (.call "is_set" [(.var 0), (.var 1)] []) (.chn .LtE .Lt (.con (.int 2)) (.bi .len [(.var 0)]) (.var 1))))]
def c_wrong_family : List C := [(.asg (.nm 2) (.call "first_wrong" [(.var 0), (.var 1)] [])), (.iff (.cmp .Eq (.var 2) (.tup [])) [(.ret (.tup []))] []), (.asg (.nm 3) (.ite (.cmp .Is (.var 2) (.con .non)) (.var 0) (.sl (.var 0) none (some (.ix (.var 2) (.con (.int 0))))))), (.for_ (.tp [(.nm 4), (.nm 5)]) .enm [(.var 3)] [(.iff (.nt (.aal true (.nm 6) .val [(.sl (.var 3) none (some (.var 4)))] (.call "do_fit" [(.var 6), (.var 5)] []))) [(.ret (.tup [(.var 4)]))] [])]), (.ret (.var 2))]
def c_wrong_tree : List C := [(.iff (.orr (.nt (.isi (.var 0) "tuple")) (.cmp .NotEq (.bi .len [(.var 0)]) (.con (.int 2)))) [(.ret (.tup []))] []), (.asg (.nm 2) (.ix (.var 0) (.con (.int 0)))), (.iff (.nt (.call "is_number" [(.var 2), (.gint "FEWEST" 3), (.gint "MOST" 12)] [])) [(.ret (.tup [(.con (.int 0))]))] []), (.iff (.var 1) [(.asg (.nm 3) (.callL "wrong_family" [(.ix (.var 0) (.con (.int 1)))] "lamC" [2]))] [(.asg (.nm 3) (.callL "wrong_family" [(.ix (.var 0) (.con (.int 1)))] "lamI" [2]))]), (.ret (.ite (.cmp .Is (.var 3) (.con .non)) (.con .non) (.bin .Add (.tup [(.con (.int 1))]) (.var 3))))]
def c_need_tree : List C := [(.asg (.nm 1) (.call "wrong_tree" [(.var 0), (.con (.bl false))] [])), (.iff (.cmp .IsNot (.var 1) (.con .non)) [.never] []), (.ret (.var 0))]
def c_need_rooted : List C := [(.asg (.nm 1) (.call "wrong_tree" [(.var 0), (.con (.bl true))] [])), (.iff (.cmp .IsNot (.var 1) (.con .non)) [.never] []), (.ret (.var 0))]
def c_all_clusters : List C := [(.asg (.tp [(.nm 1), (.nm 2)]) (.var 0)), (.asg (.nm 3) (.bin .Add (.lc (.nm 4) .rng [(.var 1)] none (.tup [(.var 4)])) (.lst [(.call "everything" [(.var 1)] [])]))), (.ret (.call "in_order" [(.bin .Add (.bi .lst [(.var 2)]) (.var 3))] []))]
def c_inner_splits : List C := [(.asg (.nm 2) (.lc (.nm 3) .val [(.var 0)] none (.call "side_of" [(.var 3), (.var 1)] []))), (.ret (.call "in_order" [(.lc (.nm 4) .val [(.var 2)] (some (.nt (.call "is_trivial" [(.var 4), (.var 1)] []))) (.var 4))] []))]
def c_unrooted_so : List C := [(.asg (.tp [(.nm 1), (.nm 2)]) (.var 0)), (.ret (.tup [(.var 1), (.call "inner_splits" [(.var 2), (.var 1)] [])]))]
def c_renumbered : List C := [(.ret (.bi .tup [(.lc (.nm 2) .val [(.var 0)] (some (.cmp .In (.var 2) (.var 1))) (.ix (.var 1) (.var 2)))]))]
def c_restricted_so : List C := [(.asg (.nm 2) (.dc (.tp [(.nm 3), (.nm 4)]) .enm [(.var 1)] (.var 4) (.var 3))), (.asg (.nm 5) (.lc (.nm 6) .val [(.ix (.var 0) (.con (.int 1)))] none (.call "renumbered" [(.var 6), (.var 2)] []))), (.ret (.tup [(.bi .len [(.var 1)]), (.call "inner_splits" [(.lc (.nm 7) .val [(.var 5)] (some (.chn .Lt .Lt (.con (.int 0)) (.bi .len [(.var 7)]) (.bi .len [(.var 1)]))) (.var 7)), (.bi .len [(.var 1)])] [])]))]
def c_restricted_rooted_so : List C := [(.asg (.nm 2) (.dc (.tp [(.nm 3), (.nm 4)]) .enm [(.var 1)] (.var 4) (.var 3))), (.asg (.nm 5) (.lc (.nm 6) .val [(.ix (.var 0) (.con (.int 1)))] none (.call "renumbered" [(.var 6), (.var 2)] []))), (.ret (.tup [(.bi .len [(.var 1)]), (.call "in_order" [(.lc (.nm 7) .val [(.var 5)] (some (.chn .Lt .Lt (.con (.int 1)) (.bi .len [(.var 7)]) (.bi .len [(.var 1)]))) (.var 7))] [])]))]
def c_unrooted : List C := [(.ret (.call "unrooted_so" [(.call "need_rooted" [(.var 0)] [])] []))]
def c_restricted : List C := [(.exp (.call "need_tree" [(.var 0)] [])), (.ret (.call "restricted_so" [(.var 0), (.call "need_set" [(.var 1), (.ix (.var 0) (.con (.int 0))), (.con (.int 3))] [])] []))]
def c_restricted_rooted : List C := [(.exp (.call "need_rooted" [(.var 0)] [])), (.ret (.call "restricted_rooted_so" [(.var 0), (.call "need_set" [(.var 1), (.ix (.var 0) (.con (.int 0))), (.con (.int 3))] [])] []))]
def c_least_common : List C := [(.exp (.call "need_rooted" [(.var 0)] [])), (.exp (.call "need_set" [(.var 1), (.ix (.var 0) (.con (.int 0))), (.con (.int 1))] [])), (.ret (.ix (.lc (.nm 2) .val [(.call "all_clusters" [(.var 0)] [])] (some (.call "within" [(.var 1), (.var 2)] [])) (.var 2)) (.con (.int 0))))]
def c__law_like : List C := [(.ret (.cmp .Eq (.bi .rep [(.var 0)]) (.bi .rep [(.var 1)])))]
def c__law_in_order : List C := [(.ret (.bi .tup [(.lc (.nm 1) .val [(.bi .srts [(.lc (.nm 2) .val [(.var 0)] none (.tup [(.bi .len [(.var 2)]), (.var 2)]))])] none (.ix (.var 1) (.con (.int 1))))]))]
def c__law_rest : List C := [(.ret (.bi .tup [(.lc (.nm 2) .rng [(.var 0)] (some (.cmp .NotIn (.var 2) (.var 1))) (.var 2))]))]
def c__law_side : List C := [(.ret (.ite (.cmp .In (.con (.int 0)) (.var 1)) (.call "_law_rest" [(.var 0), (.var 1)] []) (.bi .tup [(.var 1)])))]
def c__law_cut_to : List C := [(.asg (.nm 3) (.lst [])), (.for_ (.nm 4) .val [(.var 1)] [(.asg (.nm 5) (.bi .tup [(.lc (.tp [(.nm 6), (.nm 7)]) .enm [(.var 2)] (some (.cmp .In (.var 7) (.var 4))) (.var 6))])), (.iff (.chn .Lt .Lt (.con (.int 0)) (.bi .len [(.var 5)]) (.bi .len [(.var 2)])) [(.app 3 (.var 5))] [])]), (.ret (.var 3))]
def c__law_mixed : List C := [(.asg (.nm 0) (.bin .Mod (.bi .int [(.var 0)]) (.con (.int 2147483647)))), (.ret (.bin .Mod (.bin .Mult (.bin .Mod (.bin .Add (.bin .Add (.bin .Mult (.var 0) (.bin .Add (.con (.int 48271)) (.bin .Mult (.bin .Mult (.con (.int 2)) (.var 1)) (.var 1)))) (.bin .Mult (.con (.int 69621)) (.var 1))) (.con (.int 11))) (.con (.int 2147483647))) (.con (.int 69621))) (.con (.int 2147483629))))]
def c__law_draw : List C := [(.asg (.nm 2) (.stA 0)), (.stAt 0 (.bin .Add (.var 2) (.con (.int 1)))), (.asg (.nm 3) (.bin .Mod (.bi .int [(.var 2)]) (.stN 0))), (.asg (.nm 4) (.stI false 0 (.var 3))), (.iff (.cmp .Gt (.var 4) (.con (.int 0))) [(.stL 0 (.var 3) (.bin .FloorDiv (.var 4) (.var 1))), (.ret (.bin .Mod (.bi .int [(.var 4)]) (.var 1)))] []), (.asg (.nm 5) (.call "_law_mixed" [(.call "_law_mixed" [(.stI true 0 (.var 3)), (.var 2)] []), (.bin .Add (.con (.int 40)) (.var 2))] [])), (.ret (.bin .Mod (.bin .FloorDiv (.bi .int [(.bin .Add (.bin .Mult (.var 5) (.con (.int 2147483647))) (.call "_law_mixed" [(.var 5), (.bin .Add (.con (.int 7)) (.var 2))] []))]) (.con (.int 64))) (.var 1)))]
def c__law_of : List C := [(.ret (.ix (.var 1) (.call "_law_draw" [(.var 0), (.bi .len [(.var 1)])] [])))]
def c__law_shuffled : List C := [(.par 2 3 (.bi .lst [(.var 1)]) (.lst [])), (.for_ (.nm 4) .rng [(.bi .len [(.var 2)])] [(.asg (.nm 5) (.call "_law_of" [(.var 0), (.var 2)] [])), (.app 3 (.var 5)), (.rem 2 (.var 5))]), (.ret (.var 3))]
def c__law_some : List C := [(.asg (.nm 3) (.lc (.nm 4) .val [(.var 1)] (some (.cmp .Eq (.call "_law_draw" [(.var 0), (.con (.int 2))] []) (.con (.int 0)))) (.var 4))), (.for_ (.nm 4) .val [(.call "_law_shuffled" [(.var 0), (.var 1)] [])] [(.iff (.an (.cmp .Lt (.bi .len [(.var 3)]) (.var 2)) (.cmp .NotIn (.var 4) (.var 3))) [(.app 3 (.var 4))] [])]), (.ret (.bi .tup [(.bi .srt [(.var 3)])]))]
def c__law_family : List C := [(.par 3 4 (.lc (.nm 5) .val [(.var 1)] none (.tup [(.var 5)])) (.lst [])), (.for_ (.nm 6) .val [(.var 1)] [(.iff (.cmp .Gt (.bi .len [(.var 3)]) (.con (.int 1))) [(.asg (.nm 7) (.ite (.orr (.var 2) (.cmp .Gt (.call "_law_draw" [(.var 0), (.con (.int 3))] []) (.con (.int 0)))) (.con (.int 2)) (.bi .min [(.bi .len [(.var 3)]), (.bin .Add (.con (.int 2)) (.call "_law_draw" [(.var 0), (.con (.int 3))] []))]))), (.asg (.nm 8) (.sl (.call "_law_shuffled" [(.var 0), (.var 3)] []) none (some (.var 7)))), (.asg (.nm 3) (.lc (.nm 9) .val [(.var 3)] (some (.cmp .NotIn (.var 9) (.var 8))) (.var 9))), (.asg (.nm 10) (.lst [])), (.for_ (.nm 9) .val [(.var 8)] [(.asg (.nm 10) (.bin .Add (.var 10) (.bi .lst [(.var 9)])))]), (.app 3 (.bi .tup [(.bi .srt [(.var 10)])])), (.app 4 (.ix (.var 3) (.neg (.con (.int 1)))))] [])]), (.ret (.var 4))]
def c__law_rooted : List C := [(.ret (.tup [(.var 1), (.call "_law_in_order" [(.lc (.nm 3) .val [(.call "_law_family" [(.var 0), (.rgc false [(.var 1)]), (.var 2)] [])] (some (.cmp .Lt (.bi .len [(.var 3)]) (.var 1))) (.var 3))] [])]))]
def c__law_tree : List C := [(.asg (.nm 3) (.call "_law_family" [(.var 0), (.rgc false [(.con (.int 1)), (.var 1)]), (.var 2)] [])), (.ret (.tup [(.var 1), (.call "_law_in_order" [(.lc (.nm 4) .val [(.var 3)] (some (.cmp .Lt (.bi .len [(.var 4)]) (.bin .Sub (.var 1) (.con (.int 1))))) (.var 4))] [])]))]
def c__law_count : List C := [(.ret (.bin .Add (.var 1) (.call "_law_draw" [(.var 0), (.bin .Add (.bin .Sub (.var 2) (.var 1)) (.con (.int 1)))] [])))]
def c__law_alone : List C := [(.asg (.tp [(.nm 3), (.nm 4)]) (.tup [(.ix (.var 0) (.con (.int 0))), (.bi .len [(.var 1)])])), (.asg (.nm 5) (.call "_law_cut_to" [(.var 3), (.ix (.var 0) (.con (.int 1))), (.var 1)] [])), (.iff (.nt (.var 2)) [(.asg (.nm 5) (.lc (.nm 6) .val [(.var 5)] none (.call "_law_side" [(.var 4), (.var 6)] [])))] []), (.ret (.tup [(.var 4), (.call "_law_in_order" [(.lc (.nm 6) .val [(.var 5)] (some (.chn .Lt .Lt (.con (.int 1)) (.bi .len [(.var 6)]) (.ite (.var 2) (.var 4) (.bin .Sub (.var 4) (.con (.int 1)))))) (.var 6))] [])]))]
def c__law_least : List C := [(.for_ (.nm 2) .val [(.call "_law_in_order" [(.bin .Add (.lc (.nm 3) .rng [(.ix (.var 0) (.con (.int 0)))] none (.tup [(.var 3)])) (.bi .lst [(.ix (.var 0) (.con (.int 1)))]))] [])] [(.iff (.cmp .Eq (.lc (.nm 3) .val [(.var 1)] (some (.cmp .NotIn (.var 3) (.var 2))) (.var 3)) (.lst [])) [(.ret (.var 2))] [])]), (.ret (.rgc true [(.ix (.var 0) (.con (.int 0)))]))]
def c__law_right : List C := [(.asg (.nm 3) (.ix (.var 1) (.con (.int 0)))), (.asg (.nm 4) (.call "_law_some" [(.var 0), (.rgc false [(.var 3)]), (.con (.int 3))] [])), (.par 5 6 (.call "restricted" [(.var 4), (.var 1)] [1, 0]) (.call "restricted_rooted" [(.var 4), (.var 2)] [1, 0])), (.iff (.nt (.call "_law_like" [(.lst [(.var 5), (.var 6)]), (.lst [(.call "_law_alone" [(.var 1), (.var 4), (.con (.bl false))] []), (.call "_law_alone" [(.var 2), (.var 4), (.con (.bl true))] [])])] [])) [(.ret (.con (.bl false)))] []), (.asg (.nm 7) (.call "_law_some" [(.var 0), (.rgc false [(.bi .len [(.var 4)])]), (.con (.int 3))] [])), (.asg (.nm 8) (.bi .tup [(.lc (.nm 9) .val [(.var 7)] none (.ix (.var 4) (.var 9)))])), (.asg (.nm 10) (.lst [(.call "restricted" [(.var 5), (.var 7)] []), (.call "restricted_rooted" [(.var 6), (.var 7)] []), (.call "unrooted" [(.var 6)] [])])), (.app 10 (.call "restricted" [(.var 1), (.rgc true [(.var 3)])] [])), (.asg (.nm 11) (.lst [(.call "restricted" [(.var 1), (.var 8)] []), (.call "restricted_rooted" [(.var 2), (.var 8)] [])])), (.asg (.nm 11) (.bin .Add (.var 11) (.lst [(.call "restricted" [(.call "unrooted" [(.var 2)] []), (.var 4)] []), (.var 1)]))), (.iff (.nt (.call "_law_like" [(.var 10), (.var 11)] [])) [(.ret (.con (.bl false)))] []), (.for_ (.nm 12) .rng [(.con (.int 3))] [(.asg (.nm 13) (.call "_law_some" [(.var 0), (.rgc false [(.var 3)]), (.con (.int 1))] [])), (.iff (.nt (.call "_law_like" [(.call "least_common" [(.var 13), (.var 2)] [1, 0]), (.call "_law_least" [(.var 2), (.var 13)] [])] [])) [(.ret (.con (.bl false)))] [])]), (.ret (.con (.bl true)))]
def c_law : List C := [(.for_ (.nm 2) .rng [(.con (.int 5))] [(.asg (.nm 3) (.call "_law_count" [(.var 1), (.con (.int 3)), (.con (.int 12))] [])), (.asg (.nm 4) (.cmp .Eq (.call "_law_draw" [(.var 1), (.con (.int 2))] []) (.con (.int 0)))), (.iff (.nt (.call "_law_right" [(.var 1), (.call "_law_tree" [(.var 1), (.var 3), (.var 4)] []), (.call "_law_rooted" [(.var 1), (.var 3), (.var 4)] [])] [])) [(.ret (.con (.bl false)))] [])]), (.asg (.nm 5) (.lst [(.call "restricted" [(.tup [(.con (.int 5)), (.tup [(.tup [(.con (.int 1)), (.con (.int 2))]), (.tup [(.con (.int 1)), (.con (.int 2)), (.con (.int 3))])])]), (.tup [(.con (.int 0)), (.con (.int 2)), (.con (.int 3)), (.con (.int 4))])] []), (.call "restricted_rooted" [(.tup [(.con (.int 4)), (.tup [(.tup [(.con (.int 0)), (.con (.int 1))]), (.tup [(.con (.int 0)), (.con (.int 1)), (.con (.int 2))])])]), (.tup [(.con (.int 1)), (.con (.int 2)), (.con (.int 3))])] [])])), (.ret (.call "_law_like" [(.var 5), (.lst [(.tup [(.con (.int 4)), (.tup [(.tup [(.con (.int 1)), (.con (.int 2))])])]), (.tup [(.con (.int 3)), (.tup [(.tup [(.con (.int 0)), (.con (.int 1))])])])])] []))]
def d_is_whole : DefS := ⟨"is_whole", ["value"], ["value"], top 5, false, c_is_whole⟩
def p_is_whole : List Pat := [(1, [], [])]
def d_is_number : DefS := ⟨"is_number", ["value", "least", "most"], ["value", "least", "most"], top 6, false, c_is_number⟩
def p_is_number : List Pat := [(3, [], [])]
def d_is_set : DefS := ⟨"is_set", ["value", "count"], ["value", "count", "one", "spot"], top 10, true, c_is_set⟩
def p_is_set : List Pat := [(2, [], [])]
def d_need_set : DefS := ⟨"need_set", ["value", "count", "least"], ["value", "count", "least"], top 11, false, c_need_set⟩
def p_need_set : List Pat := [(3, [], [])]
def d_everything : DefS := ⟨"everything", ["count"], ["count"], top 12, false, c_everything⟩
def p_everything : List Pat := [(1, [], [])]
def d_without : DefS := ⟨"without", ["one", "other"], ["one", "other", "number"], top 13, false, c_without⟩
def p_without : List Pat := [(2, [], [])]
def d_common : DefS := ⟨"common", ["one", "other"], ["one", "other", "number"], top 14, false, c_common⟩
def p_common : List Pat := [(2, [], [])]
def d_within : DefS := ⟨"within", ["one", "other"], ["one", "other", "number"], top 15, true, c_within⟩
def p_within : List Pat := [(2, [], [])]
def d_order_of : DefS := ⟨"order_of", ["one"], ["one"], top 16, false, c_order_of⟩
def p_order_of : List Pat := [(1, [], [])]
def d_in_order : DefS := ⟨"in_order", ["sets"], ["sets"], top 17, false, c_in_order⟩
def p_in_order : List Pat := [(1, [], [])]
def d_first_wrong : DefS := ⟨"first_wrong", ["value", "is_right"], ["value", "is_right", "spot", "one"], top 18, false, c_first_wrong⟩
def p_first_wrong : List Pat := [(2, [], [])]
def d_is_split : DefS := ⟨"is_split", ["value", "count"], ["value", "count"], top 20, false, c_is_split⟩
def p_is_split : List Pat := [(2, [], [])]
def d_is_trivial : DefS := ⟨"is_trivial", ["split", "count"], ["split", "count"], top 21, false, c_is_trivial⟩
def p_is_trivial : List Pat := [(2, [], [])]
def d_side_of : DefS := ⟨"side_of", ["goal", "count"], ["goal", "count"], top 22, false, c_side_of⟩
def p_side_of : List Pat := [(2, [], [])]
def d_do_fit : DefS := ⟨"do_fit", ["one", "other"], ["one", "other"], top 23, false, c_do_fit⟩
def p_do_fit : List Pat := [(2, [], [])]
def d_is_inner_split : DefS := ⟨"is_inner_split", ["value", "count"], ["value", "count"], top 24, false, c_is_inner_split⟩
def p_is_inner_split : List Pat := [(2, [], [])]
def d_is_cluster : DefS := ⟨"is_cluster", ["value", "count"], ["value", "count"], top 25, false, c_is_cluster⟩
def p_is_cluster : List Pat := [(2, [], [])]
def d_wrong_family : DefS := ⟨"wrong_family", ["value", "is_right"], ["value", "is_right", "wrong", "right", "spot", "one", "other"], top 26, true, c_wrong_family⟩
def p_wrong_family : List Pat := [(2, [], [])]
def d_wrong_tree : DefS := ⟨"wrong_tree", ["value", "rooted"], ["value", "rooted", "count", "wrong"], top 27, false, c_wrong_tree⟩
def p_wrong_tree : List Pat := [(2, [], [])]
def d_need_tree : DefS := ⟨"need_tree", ["tree"], ["tree", "wrong"], top 28, false, c_need_tree⟩
def p_need_tree : List Pat := [(1, [], [])]
def d_need_rooted : DefS := ⟨"need_rooted", ["rooted"], ["rooted", "wrong"], top 29, false, c_need_rooted⟩
def p_need_rooted : List Pat := [(1, [], [])]
def d_all_clusters : DefS := ⟨"all_clusters", ["rooted"], ["rooted", "count", "clusters", "ends", "number"], top 30, false, c_all_clusters⟩
def p_all_clusters : List Pat := [(1, [], [])]
def d_inner_splits : DefS := ⟨"inner_splits", ["sides", "count"], ["sides", "count", "splits", "side", "split"], top 32, false, c_inner_splits⟩
def p_inner_splits : List Pat := [(2, [], [])]
def d_unrooted_so : DefS := ⟨"unrooted_so", ["rooted"], ["rooted", "count", "clusters"], top 33, false, c_unrooted_so⟩
def p_unrooted_so : List Pat := [(1, [], [])]
def d_renumbered : DefS := ⟨"renumbered", ["goal", "spots"], ["goal", "spots", "number"], top 34, false, c_renumbered⟩
def p_renumbered : List Pat := [(2, [], [])]
def d_restricted_so : DefS := ⟨"restricted_so", ["tree", "goal"], ["tree", "goal", "spots", "spot", "number", "sides", "split", "side"], top 35, false, c_restricted_so⟩
def p_restricted_so : List Pat := [(2, [], [])]
def d_restricted_rooted_so : DefS := ⟨"restricted_rooted_so", ["rooted", "goal"], ["rooted", "goal", "spots", "spot", "number", "sides", "cluster", "side"], top 36, false, c_restricted_rooted_so⟩
def p_restricted_rooted_so : List Pat := [(2, [], [])]
def d_unrooted : DefS := ⟨"unrooted", ["rooted"], ["rooted"], top 37, false, c_unrooted⟩
def p_unrooted : List Pat := [(1, [], [])]
def d_restricted : DefS := ⟨"restricted", ["tree", "goal"], ["tree", "goal"], top 38, false, c_restricted⟩
def p_restricted : List Pat := [(0, ["goal", "tree"], [1, 0]), (2, [], [])]
def d_restricted_rooted : DefS := ⟨"restricted_rooted", ["rooted", "goal"], ["rooted", "goal"], top 39, false, c_restricted_rooted⟩
def p_restricted_rooted : List Pat := [(0, ["goal", "rooted"], [1, 0]), (2, [], [])]
def d_least_common : DefS := ⟨"least_common", ["rooted", "goal"], ["rooted", "goal", "one"], top 40, false, c_least_common⟩
def p_least_common : List Pat := [(0, ["goal", "rooted"], [1, 0])]
def d__law_like : DefS := ⟨"_law_like", ["got", "due"], ["got", "due"], top 42, false, c__law_like⟩
def p__law_like : List Pat := [(2, [], [])]
def d__law_in_order : DefS := ⟨"_law_in_order", ["sets_so"], ["sets_so", "pair", "one"], top 43, false, c__law_in_order⟩
def p__law_in_order : List Pat := [(1, [], [])]
def d__law_rest : DefS := ⟨"_law_rest", ["count", "goal"], ["count", "goal", "number"], top 44, false, c__law_rest⟩
def p__law_rest : List Pat := [(2, [], [])]
def d__law_side : DefS := ⟨"_law_side", ["count", "goal"], ["count", "goal"], top 45, false, c__law_side⟩
def p__law_side : List Pat := [(2, [], [])]
def d__law_cut_to : DefS := ⟨"_law_cut_to", ["count", "sides", "goal"], ["count", "sides", "goal", "found", "side", "kept", "spot", "number"], top 46, false, c__law_cut_to⟩
def p__law_cut_to : List Pat := [(3, [], [])]
def d__law_begin : DefS := ⟨"_law_begin", ["script"], ["script", "cells_so", "cell"], top 47, false, []⟩
def p__law_begin : List Pat := [(1, [], [])]
def d__law_mixed : DefS := ⟨"_law_mixed", ["cell", "k"], ["cell", "k"], top 48, false, c__law_mixed⟩
def p__law_mixed : List Pat := [(2, [], [])]
def d__law_draw : DefS := ⟨"_law_draw", ["state", "limit"], ["state", "limit", "at", "place", "left", "number"], top 49, false, c__law_draw⟩
def p__law_draw : List Pat := [(2, [], [])]
def d__law_of : DefS := ⟨"_law_of", ["state", "some"], ["state", "some"], top 50, false, c__law_of⟩
def p__law_of : List Pat := [(2, [], [])]
def d__law_shuffled : DefS := ⟨"_law_shuffled", ["state", "some"], ["state", "some", "left", "found", "turn", "one"], top 51, false, c__law_shuffled⟩
def p__law_shuffled : List Pat := [(2, [], [])]
def d__law_some : DefS := ⟨"_law_some", ["state", "goal", "least"], ["state", "goal", "least", "kept", "number"], top 52, false, c__law_some⟩
def p__law_some : List Pat := [(3, [], [])]
def d__law_family : DefS := ⟨"_law_family", ["state", "leaves", "forked"], ["state", "leaves", "forked", "lots", "found", "number", "turn", "many", "chosen", "lot", "members"], top 53, false, c__law_family⟩
def p__law_family : List Pat := [(3, [], [])]
def d__law_rooted : DefS := ⟨"_law_rooted", ["state", "count", "forked"], ["state", "count", "forked", "one"], top 54, false, c__law_rooted⟩
def p__law_rooted : List Pat := [(3, [], [])]
def d__law_tree : DefS := ⟨"_law_tree", ["state", "count", "forked"], ["state", "count", "forked", "family", "one"], top 55, false, c__law_tree⟩
def p__law_tree : List Pat := [(3, [], [])]
def d__law_count : DefS := ⟨"_law_count", ["state", "least", "most"], ["state", "least", "most"], top 56, false, c__law_count⟩
def p__law_count : List Pat := [(3, [], [])]
def d__law_alone : DefS := ⟨"_law_alone", ["tree_so", "goal", "rooted"], ["tree_so", "goal", "rooted", "count", "many", "sides", "side"], top 57, false, c__law_alone⟩
def p__law_alone : List Pat := [(3, [], [])]
def d__law_least : DefS := ⟨"_law_least", ["rooted_so", "goal"], ["rooted_so", "goal", "one", "number"], top 58, false, c__law_least⟩
def p__law_least : List Pat := [(2, [], [])]
def d__law_right : DefS := ⟨"_law_right", ["state", "tree_so", "rooted_so"], ["state", "tree_so", "rooted_so", "count", "goal", "near", "far", "less", "twice", "spot", "got", "due", "turn", "some"], top 59, false, c__law_right⟩
def p__law_right : List Pat := [(3, [], [])]
def d_law : DefS := ⟨"law", ["script"], ["script", "state", "turn", "count", "forked", "got"], top 60, false, c_law⟩
def p_law : List Pat := []
def ds0 : List (DefS × List Pat) := [(d_is_whole, p_is_whole), (d_is_number, p_is_number), (d_is_set, p_is_set), (d_need_set, p_need_set), (d_everything, p_everything), (d_without, p_without), (d_common, p_common), (d_within, p_within), (d_order_of, p_order_of), (d_in_order, p_in_order), (d_first_wrong, p_first_wrong), (d_is_split, p_is_split), (d_is_trivial, p_is_trivial), (d_side_of, p_side_of), (d_do_fit, p_do_fit)]
def ds1 : List (DefS × List Pat) := [(d_is_inner_split, p_is_inner_split), (d_is_cluster, p_is_cluster), (d_wrong_family, p_wrong_family), (d_need_tree, p_need_tree), (d_need_rooted, p_need_rooted), (d_all_clusters, p_all_clusters), (d_inner_splits, p_inner_splits), (d_unrooted_so, p_unrooted_so), (d_renumbered, p_renumbered), (d_restricted_so, p_restricted_so), (d_restricted_rooted_so, p_restricted_rooted_so), (d_unrooted, p_unrooted), (d_restricted, p_restricted), (d_restricted_rooted, p_restricted_rooted), (d_least_common, p_least_common)]
def ds2 : List (DefS × List Pat) := [(d__law_like, p__law_like), (d__law_in_order, p__law_in_order), (d__law_rest, p__law_rest), (d__law_side, p__law_side), (d__law_cut_to, p__law_cut_to), (d__law_mixed, p__law_mixed), (d__law_draw, p__law_draw), (d__law_of, p__law_of), (d__law_shuffled, p__law_shuffled), (d__law_some, p__law_some), (d__law_family, p__law_family), (d__law_rooted, p__law_rooted), (d__law_tree, p__law_tree), (d__law_count, p__law_count), (d__law_alone, p__law_alone)]
def ds3 : List (DefS × List Pat) := [(d__law_least, p__law_least), (d__law_right, p__law_right)]
def lams : List (Str × Fn) := [("lamC", .lam 2 2 (.call "is_cluster" [.var 0, .var 1] [])), ("lamI", .lam 2 2 (.call "is_inner_split" [.var 0, .var 1] []))]
def M : Mdl := ⟨ds0 ++ ds1 ++ ds2 ++ ds3, (d_wrong_tree, p_wrong_tree), lams, [("FEWEST", 3), ("MOST", 12)], ["ValueError", "all", "bool", "enumerate", "int", "isinstance", "len", "list", "min", "range", "repr", "set", "sorted", "super", "tuple"]⟩
def more : List DefS := [d__law_begin, d_law]
theorem chk : MChk M := mchk (by kernel_rfl)
theorem comp_all (W : Wp) (Γ : Gam) (K0 : Nat) : M.ds.map (fun p => compOf M.gi W Γ K0 p.1) = M.ds.map (fun p => p.1.cs) := by kernel_rfl
theorem comp_eq {W : Wp} (Γ : Gam) (K0 : Nat) (p : DefS × List Pat) (hp : p ∈ M.ds) : compOf M.gi W Γ K0 p.1 = p.1.cs := List.map_inj_left.mp (comp_all W Γ K0) p hp
def wtS : List Stmt := C8.fnBody (top 27)
def lamP (b : Bool) : Arguments × Expr × Scope := match wtS with
  | [_, _, _, .If _ [.Assign _ (.Call _ [_, .Lambda a e s _] _ _) _] [.Assign _ (.Call _ [_, .Lambda a2 e2 s2 _] _ _) _] _, _] => if b then (a, e, s) else (a2, e2, s2)
  | _ => (⟨[], [], none, [], [], none, []⟩, .Name "" ⟨0, 0, 0, 0⟩, ⟨.function, [], false, false, []⟩)
def qn : Str := "wrong_tree.<locals>.<lambda>"
def LD (b : Bool) : LamD := ⟨qn, (lamP b).1, (lamP b).2.1, (lamP b).2.2, freeNs (lamP b).2.2.names []⟩
def lamW (x : Str) : Option LamD := if x = "lamC" then some (LD true) else if x = "lamI" then some (LD false) else none
section
variable {W : Wp} {Γ : Gam} {K0 : Nat}
theorem wt_cs : [((comp (gi := M.gi) (W := W) (Γ := Γ) (K0 := K0) 60).S d_wrong_tree.ct (wtS.getD 0 (.Pass ⟨0, 0, 0, 0⟩))).c] = [c_wrong_tree.getD 0 .never] := by kernel_rfl
end
theorem b_is_whole {K : PySem.W.Frag} {f : Addr} {fd : FuncData} (F : FunX K "is_whole" (top 5) f fd) : ∀ p ∈ p_is_whole, BindP K fd d_is_whole.ps p.1 p.2.1 p.2.2 ∧ ∀ vs : List V, vs.length = p.1 + p.2.1.length → ∀ as, permL p.2.2 vs = some as → as.length = d_is_whole.ps.length := by
  intro p hp
  unfold p_is_whole at hp
  rcases List.mem_cons.mp hp
                                                                                                    with rfl | hp
  · refine ⟨bind_by F fun kV doc pm an cdv ct us ws as h1 h2 h3 => ?_, perm_ok rfl⟩
    match us, h1, ws, h2, h3 with
    | [a0], _, [], _, h3 =>
      have e := Option.some.inj (show some [a0] = some as from h3)
      subst e
      rfl
  cases hp
theorem b_is_number {K : PySem.W.Frag} {f : Addr} {fd : FuncData} (F : FunX K "is_number" (top 6) f fd) : ∀ p ∈ p_is_number, BindP K fd d_is_number.ps p.1 p.2.1 p.2.2 ∧ ∀ vs : List V, vs.length = p.1 + p.2.1.length → ∀ as, permL p.2.2 vs = some as → as.length = d_is_number.ps.length := by
  intro p hp
  unfold p_is_number at hp
  rcases List.mem_cons.mp hp
                                                                                                    with rfl | hp
  · refine ⟨bind_by F fun kV doc pm an cdv ct us ws as h1 h2 h3 => ?_, perm_ok rfl⟩
    match us, h1, ws, h2, h3 with
    | [a0, a1, a2], _, [], _, h3 =>
      have e := Option.some.inj (show some [a0, a1, a2] = some as from h3)
      subst e
      rfl
  cases hp
theorem b_is_set {K : PySem.W.Frag} {f : Addr} {fd : FuncData} (F : FunX K "is_set" (top 10) f fd) : ∀ p ∈ p_is_set, BindP K fd d_is_set.ps p.1 p.2.1 p.2.2 ∧ ∀ vs : List V, vs.length = p.1 + p.2.1.length → ∀ as, permL p.2.2 vs = some as → as.length = d_is_set.ps.length := by
  intro p hp
  unfold p_is_set at hp
  rcases List.mem_cons.mp hp
                                                                                                    with rfl | hp
  · refine ⟨bind_by F fun kV doc pm an cdv ct us ws as h1 h2 h3 => ?_, perm_ok rfl⟩
    match us, h1, ws, h2, h3 with
    | [a0, a1], _, [], _, h3 =>
      have e := Option.some.inj (show some [a0, a1] = some as from h3)
      subst e
      rfl
  cases hp
theorem b_need_set {K : PySem.W.Frag} {f : Addr} {fd : FuncData} (F : FunX K "need_set" (top 11) f fd) : ∀ p ∈ p_need_set, BindP K fd d_need_set.ps p.1 p.2.1 p.2.2 ∧ ∀ vs : List V, vs.length = p.1 + p.2.1.length → ∀ as, permL p.2.2 vs = some as → as.length = d_need_set.ps.length := by
  intro p hp
  unfold p_need_set at hp
  rcases List.mem_cons.mp hp
                                                                                                    with rfl | hp
  · refine ⟨bind_by F fun kV doc pm an cdv ct us ws as h1 h2 h3 => ?_, perm_ok rfl⟩
    match us, h1, ws, h2, h3 with
    | [a0, a1, a2], _, [], _, h3 =>
      have e := Option.some.inj (show some [a0, a1, a2] = some as from h3)
      subst e
      rfl
  cases hp
theorem b_everything {K : PySem.W.Frag} {f : Addr} {fd : FuncData} (F : FunX K "everything" (top 12) f fd) : ∀ p ∈ p_everything, BindP K fd d_everything.ps p.1 p.2.1 p.2.2 ∧ ∀ vs : List V, vs.length = p.1 + p.2.1.length → ∀ as, permL p.2.2 vs = some as → as.length = d_everything.ps.length := by
  intro p hp
  unfold p_everything at hp
  rcases List.mem_cons.mp hp
                                                                                                    with rfl | hp
  · refine ⟨bind_by F fun kV doc pm an cdv ct us ws as h1 h2 h3 => ?_, perm_ok rfl⟩
    match us, h1, ws, h2, h3 with
    | [a0], _, [], _, h3 =>
      have e := Option.some.inj (show some [a0] = some as from h3)
      subst e
      rfl
  cases hp
theorem b_without {K : PySem.W.Frag} {f : Addr} {fd : FuncData} (F : FunX K "without" (top 13) f fd) : ∀ p ∈ p_without, BindP K fd d_without.ps p.1 p.2.1 p.2.2 ∧ ∀ vs : List V, vs.length = p.1 + p.2.1.length → ∀ as, permL p.2.2 vs = some as → as.length = d_without.ps.length := by
  intro p hp
  unfold p_without at hp
  rcases List.mem_cons.mp hp
                                                                                                    with rfl | hp
  · refine ⟨bind_by F fun kV doc pm an cdv ct us ws as h1 h2 h3 => ?_, perm_ok rfl⟩
    match us, h1, ws, h2, h3 with
    | [a0, a1], _, [], _, h3 =>
      have e := Option.some.inj (show some [a0, a1] = some as from h3)
      subst e
      rfl
  cases hp
theorem b_common {K : PySem.W.Frag} {f : Addr} {fd : FuncData} (F : FunX K "common" (top 14) f fd) : ∀ p ∈ p_common, BindP K fd d_common.ps p.1 p.2.1 p.2.2 ∧ ∀ vs : List V, vs.length = p.1 + p.2.1.length → ∀ as, permL p.2.2 vs = some as → as.length = d_common.ps.length := by
  intro p hp
  unfold p_common at hp
  rcases List.mem_cons.mp hp
                                                                                                    with rfl | hp
  · refine ⟨bind_by F fun kV doc pm an cdv ct us ws as h1 h2 h3 => ?_, perm_ok rfl⟩
    match us, h1, ws, h2, h3 with
    | [a0, a1], _, [], _, h3 =>
      have e := Option.some.inj (show some [a0, a1] = some as from h3)
      subst e
      rfl
  cases hp
theorem b_within {K : PySem.W.Frag} {f : Addr} {fd : FuncData} (F : FunX K "within" (top 15) f fd) : ∀ p ∈ p_within, BindP K fd d_within.ps p.1 p.2.1 p.2.2 ∧ ∀ vs : List V, vs.length = p.1 + p.2.1.length → ∀ as, permL p.2.2 vs = some as → as.length = d_within.ps.length := by
  intro p hp
  unfold p_within at hp
  rcases List.mem_cons.mp hp
                                                                                                    with rfl | hp
  · refine ⟨bind_by F fun kV doc pm an cdv ct us ws as h1 h2 h3 => ?_, perm_ok rfl⟩
    match us, h1, ws, h2, h3 with
    | [a0, a1], _, [], _, h3 =>
      have e := Option.some.inj (show some [a0, a1] = some as from h3)
      subst e
      rfl
  cases hp
theorem b_order_of {K : PySem.W.Frag} {f : Addr} {fd : FuncData} (F : FunX K "order_of" (top 16) f fd) : ∀ p ∈ p_order_of, BindP K fd d_order_of.ps p.1 p.2.1 p.2.2 ∧ ∀ vs : List V, vs.length = p.1 + p.2.1.length → ∀ as, permL p.2.2 vs = some as → as.length = d_order_of.ps.length := by
  intro p hp
  unfold p_order_of at hp
  rcases List.mem_cons.mp hp
                                                                                                    with rfl | hp
  · refine ⟨bind_by F fun kV doc pm an cdv ct us ws as h1 h2 h3 => ?_, perm_ok rfl⟩
    match us, h1, ws, h2, h3 with
    | [a0], _, [], _, h3 =>
      have e := Option.some.inj (show some [a0] = some as from h3)
      subst e
      rfl
  cases hp
theorem b_in_order {K : PySem.W.Frag} {f : Addr} {fd : FuncData} (F : FunX K "in_order" (top 17) f fd) : ∀ p ∈ p_in_order, BindP K fd d_in_order.ps p.1 p.2.1 p.2.2 ∧ ∀ vs : List V, vs.length = p.1 + p.2.1.length → ∀ as, permL p.2.2 vs = some as → as.length = d_in_order.ps.length := by
  intro p hp
  unfold p_in_order at hp
  rcases List.mem_cons.mp hp
                                                                                                    with rfl | hp
  · refine ⟨bind_by F fun kV doc pm an cdv ct us ws as h1 h2 h3 => ?_, perm_ok rfl⟩
    match us, h1, ws, h2, h3 with
    | [a0], _, [], _, h3 =>
      have e := Option.some.inj (show some [a0] = some as from h3)
      subst e
      rfl
  cases hp
theorem b_first_wrong {K : PySem.W.Frag} {f : Addr} {fd : FuncData} (F : FunX K "first_wrong" (top 18) f fd) : ∀ p ∈ p_first_wrong, BindP K fd d_first_wrong.ps p.1 p.2.1 p.2.2 ∧ ∀ vs : List V, vs.length = p.1 + p.2.1.length → ∀ as, permL p.2.2 vs = some as → as.length = d_first_wrong.ps.length := by
  intro p hp
  unfold p_first_wrong at hp
  rcases List.mem_cons.mp hp
                                                                                                    with rfl | hp
  · refine ⟨bind_by F fun kV doc pm an cdv ct us ws as h1 h2 h3 => ?_, perm_ok rfl⟩
    match us, h1, ws, h2, h3 with
    | [a0, a1], _, [], _, h3 =>
      have e := Option.some.inj (show some [a0, a1] = some as from h3)
      subst e
      rfl
  cases hp
theorem b_is_split {K : PySem.W.Frag} {f : Addr} {fd : FuncData} (F : FunX K "is_split" (top 20) f fd) : ∀ p ∈ p_is_split, BindP K fd d_is_split.ps p.1 p.2.1 p.2.2 ∧ ∀ vs : List V, vs.length = p.1 + p.2.1.length → ∀ as, permL p.2.2 vs = some as → as.length = d_is_split.ps.length := by
  intro p hp
  unfold p_is_split at hp
  rcases List.mem_cons.mp hp
                                                                                                    with rfl | hp
  · refine ⟨bind_by F fun kV doc pm an cdv ct us ws as h1 h2 h3 => ?_, perm_ok rfl⟩
    match us, h1, ws, h2, h3 with
    | [a0, a1], _, [], _, h3 =>
      have e := Option.some.inj (show some [a0, a1] = some as from h3)
      subst e
      rfl
  cases hp
theorem b_is_trivial {K : PySem.W.Frag} {f : Addr} {fd : FuncData} (F : FunX K "is_trivial" (top 21) f fd) : ∀ p ∈ p_is_trivial, BindP K fd d_is_trivial.ps p.1 p.2.1 p.2.2 ∧ ∀ vs : List V, vs.length = p.1 + p.2.1.length → ∀ as, permL p.2.2 vs = some as → as.length = d_is_trivial.ps.length := by
  intro p hp
  unfold p_is_trivial at hp
  rcases List.mem_cons.mp hp
                                                                                                    with rfl | hp
  · refine ⟨bind_by F fun kV doc pm an cdv ct us ws as h1 h2 h3 => ?_, perm_ok rfl⟩
    match us, h1, ws, h2, h3 with
    | [a0, a1], _, [], _, h3 =>
      have e := Option.some.inj (show some [a0, a1] = some as from h3)
      subst e
      rfl
  cases hp
theorem b_side_of {K : PySem.W.Frag} {f : Addr} {fd : FuncData} (F : FunX K "side_of" (top 22) f fd) : ∀ p ∈ p_side_of, BindP K fd d_side_of.ps p.1 p.2.1 p.2.2 ∧ ∀ vs : List V, vs.length = p.1 + p.2.1.length → ∀ as, permL p.2.2 vs = some as → as.length = d_side_of.ps.length := by
  intro p hp
  unfold p_side_of at hp
  rcases List.mem_cons.mp hp
                                                                                                    with rfl | hp
  · refine ⟨bind_by F fun kV doc pm an cdv ct us ws as h1 h2 h3 => ?_, perm_ok rfl⟩
    match us, h1, ws, h2, h3 with
    | [a0, a1], _, [], _, h3 =>
      have e := Option.some.inj (show some [a0, a1] = some as from h3)
      subst e
      rfl
  cases hp
theorem b_do_fit {K : PySem.W.Frag} {f : Addr} {fd : FuncData} (F : FunX K "do_fit" (top 23) f fd) : ∀ p ∈ p_do_fit, BindP K fd d_do_fit.ps p.1 p.2.1 p.2.2 ∧ ∀ vs : List V, vs.length = p.1 + p.2.1.length → ∀ as, permL p.2.2 vs = some as → as.length = d_do_fit.ps.length := by
  intro p hp
  unfold p_do_fit at hp
  rcases List.mem_cons.mp hp
                                                                                                    with rfl | hp
  · refine ⟨bind_by F fun kV doc pm an cdv ct us ws as h1 h2 h3 => ?_, perm_ok rfl⟩
    match us, h1, ws, h2, h3 with
    | [a0, a1], _, [], _, h3 =>
      have e := Option.some.inj (show some [a0, a1] = some as from h3)
      subst e
      rfl
  cases hp
theorem b_is_inner_split {K : PySem.W.Frag} {f : Addr} {fd : FuncData} (F : FunX K "is_inner_split" (top 24) f fd) : ∀ p ∈ p_is_inner_split, BindP K fd d_is_inner_split.ps p.1 p.2.1 p.2.2 ∧ ∀ vs : List V, vs.length = p.1 + p.2.1.length → ∀ as, permL p.2.2 vs = some as → as.length = d_is_inner_split.ps.length := by
  intro p hp
  unfold p_is_inner_split at hp
  rcases List.mem_cons.mp hp
                                                                                                    with rfl | hp
  · refine ⟨bind_by F fun kV doc pm an cdv ct us ws as h1 h2 h3 => ?_, perm_ok rfl⟩
    match us, h1, ws, h2, h3 with
    | [a0, a1], _, [], _, h3 =>
      have e := Option.some.inj (show some [a0, a1] = some as from h3)
      subst e
      rfl
  cases hp
theorem b_is_cluster {K : PySem.W.Frag} {f : Addr} {fd : FuncData} (F : FunX K "is_cluster" (top 25) f fd) : ∀ p ∈ p_is_cluster, BindP K fd d_is_cluster.ps p.1 p.2.1 p.2.2 ∧ ∀ vs : List V, vs.length = p.1 + p.2.1.length → ∀ as, permL p.2.2 vs = some as → as.length = d_is_cluster.ps.length := by
  intro p hp
  unfold p_is_cluster at hp
  rcases List.mem_cons.mp hp
                                                                                                    with rfl | hp
  · refine ⟨bind_by F fun kV doc pm an cdv ct us ws as h1 h2 h3 => ?_, perm_ok rfl⟩
    match us, h1, ws, h2, h3 with
    | [a0, a1], _, [], _, h3 =>
      have e := Option.some.inj (show some [a0, a1] = some as from h3)
      subst e
      rfl
  cases hp
theorem b_wrong_family {K : PySem.W.Frag} {f : Addr} {fd : FuncData} (F : FunX K "wrong_family" (top 26) f fd) : ∀ p ∈ p_wrong_family, BindP K fd d_wrong_family.ps p.1 p.2.1 p.2.2 ∧ ∀ vs : List V, vs.length = p.1 + p.2.1.length → ∀ as, permL p.2.2 vs = some as → as.length = d_wrong_family.ps.length := by
  intro p hp
  unfold p_wrong_family at hp
  rcases List.mem_cons.mp hp
                                                                                                    with rfl | hp
  · refine ⟨bind_by F fun kV doc pm an cdv ct us ws as h1 h2 h3 => ?_, perm_ok rfl⟩
    match us, h1, ws, h2, h3 with
    | [a0, a1], _, [], _, h3 =>
      have e := Option.some.inj (show some [a0, a1] = some as from h3)
      subst e
      rfl
  cases hp
theorem b_wrong_tree {K : PySem.W.Frag} {f : Addr} {fd : FuncData} (F : FunX K "wrong_tree" (top 27) f fd) : ∀ p ∈ p_wrong_tree, BindP K fd d_wrong_tree.ps p.1 p.2.1 p.2.2 ∧ ∀ vs : List V, vs.length = p.1 + p.2.1.length → ∀ as, permL p.2.2 vs = some as → as.length = d_wrong_tree.ps.length := by
  intro p hp
  unfold p_wrong_tree at hp
  rcases List.mem_cons.mp hp
                                                                                                    with rfl | hp
  · refine ⟨bind_by F fun kV doc pm an cdv ct us ws as h1 h2 h3 => ?_, perm_ok rfl⟩
    match us, h1, ws, h2, h3 with
    | [a0, a1], _, [], _, h3 =>
      have e := Option.some.inj (show some [a0, a1] = some as from h3)
      subst e
      rfl
  cases hp
theorem b_need_tree {K : PySem.W.Frag} {f : Addr} {fd : FuncData} (F : FunX K "need_tree" (top 28) f fd) : ∀ p ∈ p_need_tree, BindP K fd d_need_tree.ps p.1 p.2.1 p.2.2 ∧ ∀ vs : List V, vs.length = p.1 + p.2.1.length → ∀ as, permL p.2.2 vs = some as → as.length = d_need_tree.ps.length := by
  intro p hp
  unfold p_need_tree at hp
  rcases List.mem_cons.mp hp
                                                                                                    with rfl | hp
  · refine ⟨bind_by F fun kV doc pm an cdv ct us ws as h1 h2 h3 => ?_, perm_ok rfl⟩
    match us, h1, ws, h2, h3 with
    | [a0], _, [], _, h3 =>
      have e := Option.some.inj (show some [a0] = some as from h3)
      subst e
      rfl
  cases hp
theorem b_need_rooted {K : PySem.W.Frag} {f : Addr} {fd : FuncData} (F : FunX K "need_rooted" (top 29) f fd) : ∀ p ∈ p_need_rooted, BindP K fd d_need_rooted.ps p.1 p.2.1 p.2.2 ∧ ∀ vs : List V, vs.length = p.1 + p.2.1.length → ∀ as, permL p.2.2 vs = some as → as.length = d_need_rooted.ps.length := by
  intro p hp
  unfold p_need_rooted at hp
  rcases List.mem_cons.mp hp
                                                                                                    with rfl | hp
  · refine ⟨bind_by F fun kV doc pm an cdv ct us ws as h1 h2 h3 => ?_, perm_ok rfl⟩
    match us, h1, ws, h2, h3 with
    | [a0], _, [], _, h3 =>
      have e := Option.some.inj (show some [a0] = some as from h3)
      subst e
      rfl
  cases hp
theorem b_all_clusters {K : PySem.W.Frag} {f : Addr} {fd : FuncData} (F : FunX K "all_clusters" (top 30) f fd) : ∀ p ∈ p_all_clusters, BindP K fd d_all_clusters.ps p.1 p.2.1 p.2.2 ∧ ∀ vs : List V, vs.length = p.1 + p.2.1.length → ∀ as, permL p.2.2 vs = some as → as.length = d_all_clusters.ps.length := by
  intro p hp
  unfold p_all_clusters at hp
  rcases List.mem_cons.mp hp
                                                                                                    with rfl | hp
  · refine ⟨bind_by F fun kV doc pm an cdv ct us ws as h1 h2 h3 => ?_, perm_ok rfl⟩
    match us, h1, ws, h2, h3 with
    | [a0], _, [], _, h3 =>
      have e := Option.some.inj (show some [a0] = some as from h3)
      subst e
      rfl
  cases hp
theorem b_inner_splits {K : PySem.W.Frag} {f : Addr} {fd : FuncData} (F : FunX K "inner_splits" (top 32) f fd) : ∀ p ∈ p_inner_splits, BindP K fd d_inner_splits.ps p.1 p.2.1 p.2.2 ∧ ∀ vs : List V, vs.length = p.1 + p.2.1.length → ∀ as, permL p.2.2 vs = some as → as.length = d_inner_splits.ps.length := by
  intro p hp
  unfold p_inner_splits at hp
  rcases List.mem_cons.mp hp
                                                                                                    with rfl | hp
  · refine ⟨bind_by F fun kV doc pm an cdv ct us ws as h1 h2 h3 => ?_, perm_ok rfl⟩
    match us, h1, ws, h2, h3 with
    | [a0, a1], _, [], _, h3 =>
      have e := Option.some.inj (show some [a0, a1] = some as from h3)
      subst e
      rfl
  cases hp
theorem b_unrooted_so {K : PySem.W.Frag} {f : Addr} {fd : FuncData} (F : FunX K "unrooted_so" (top 33) f fd) : ∀ p ∈ p_unrooted_so, BindP K fd d_unrooted_so.ps p.1 p.2.1 p.2.2 ∧ ∀ vs : List V, vs.length = p.1 + p.2.1.length → ∀ as, permL p.2.2 vs = some as → as.length = d_unrooted_so.ps.length := by
  intro p hp
  unfold p_unrooted_so at hp
  rcases List.mem_cons.mp hp
                                                                                                    with rfl | hp
  · refine ⟨bind_by F fun kV doc pm an cdv ct us ws as h1 h2 h3 => ?_, perm_ok rfl⟩
    match us, h1, ws, h2, h3 with
    | [a0], _, [], _, h3 =>
      have e := Option.some.inj (show some [a0] = some as from h3)
      subst e
      rfl
  cases hp
theorem b_renumbered {K : PySem.W.Frag} {f : Addr} {fd : FuncData} (F : FunX K "renumbered" (top 34) f fd) : ∀ p ∈ p_renumbered, BindP K fd d_renumbered.ps p.1 p.2.1 p.2.2 ∧ ∀ vs : List V, vs.length = p.1 + p.2.1.length → ∀ as, permL p.2.2 vs = some as → as.length = d_renumbered.ps.length := by
  intro p hp
  unfold p_renumbered at hp
  rcases List.mem_cons.mp hp
                                                                                                    with rfl | hp
  · refine ⟨bind_by F fun kV doc pm an cdv ct us ws as h1 h2 h3 => ?_, perm_ok rfl⟩
    match us, h1, ws, h2, h3 with
    | [a0, a1], _, [], _, h3 =>
      have e := Option.some.inj (show some [a0, a1] = some as from h3)
      subst e
      rfl
  cases hp
theorem b_restricted_so {K : PySem.W.Frag} {f : Addr} {fd : FuncData} (F : FunX K "restricted_so" (top 35) f fd) : ∀ p ∈ p_restricted_so, BindP K fd d_restricted_so.ps p.1 p.2.1 p.2.2 ∧ ∀ vs : List V, vs.length = p.1 + p.2.1.length → ∀ as, permL p.2.2 vs = some as → as.length = d_restricted_so.ps.length := by
  intro p hp
  unfold p_restricted_so at hp
  rcases List.mem_cons.mp hp
                                                                                                    with rfl | hp
  · refine ⟨bind_by F fun kV doc pm an cdv ct us ws as h1 h2 h3 => ?_, perm_ok rfl⟩
    match us, h1, ws, h2, h3 with
    | [a0, a1], _, [], _, h3 =>
      have e := Option.some.inj (show some [a0, a1] = some as from h3)
      subst e
      rfl
  cases hp
theorem b_restricted_rooted_so {K : PySem.W.Frag} {f : Addr} {fd : FuncData} (F : FunX K "restricted_rooted_so" (top 36) f fd) : ∀ p ∈ p_restricted_rooted_so, BindP K fd d_restricted_rooted_so.ps p.1 p.2.1 p.2.2 ∧ ∀ vs : List V, vs.length = p.1 + p.2.1.length → ∀ as, permL p.2.2 vs = some as → as.length = d_restricted_rooted_so.ps.length := by
  intro p hp
  unfold p_restricted_rooted_so at hp
  rcases List.mem_cons.mp hp
                                                                                                    with rfl | hp
  · refine ⟨bind_by F fun kV doc pm an cdv ct us ws as h1 h2 h3 => ?_, perm_ok rfl⟩
    match us, h1, ws, h2, h3 with
    | [a0, a1], _, [], _, h3 =>
      have e := Option.some.inj (show some [a0, a1] = some as from h3)
      subst e
      rfl
  cases hp
theorem b_unrooted {K : PySem.W.Frag} {f : Addr} {fd : FuncData} (F : FunX K "unrooted" (top 37) f fd) : ∀ p ∈ p_unrooted, BindP K fd d_unrooted.ps p.1 p.2.1 p.2.2 ∧ ∀ vs : List V, vs.length = p.1 + p.2.1.length → ∀ as, permL p.2.2 vs = some as → as.length = d_unrooted.ps.length := by
  intro p hp
  unfold p_unrooted at hp
  rcases List.mem_cons.mp hp
                                                                                                    with rfl | hp
  · refine ⟨bind_by F fun kV doc pm an cdv ct us ws as h1 h2 h3 => ?_, perm_ok rfl⟩
    match us, h1, ws, h2, h3 with
    | [a0], _, [], _, h3 =>
      have e := Option.some.inj (show some [a0] = some as from h3)
      subst e
      rfl
  cases hp
theorem b_restricted {K : PySem.W.Frag} {f : Addr} {fd : FuncData} (F : FunX K "restricted" (top 38) f fd) : ∀ p ∈ p_restricted, BindP K fd d_restricted.ps p.1 p.2.1 p.2.2 ∧ ∀ vs : List V, vs.length = p.1 + p.2.1.length → ∀ as, permL p.2.2 vs = some as → as.length = d_restricted.ps.length := by
  intro p hp
  unfold p_restricted at hp
  rcases List.mem_cons.mp hp
                                                                                                    with rfl | hp
  · refine ⟨bind_by F fun kV doc pm an cdv ct us ws as h1 h2 h3 => ?_, perm_ok rfl⟩
    match us, h1, ws, h2, h3 with
    | [], _, [b0, b1], _, h3 =>
      have e := Option.some.inj (show some [b1, b0] = some as from h3)
      subst e
      rfl
  rcases List.mem_cons.mp hp
                                                                                                    with rfl | hp
  · refine ⟨bind_by F fun kV doc pm an cdv ct us ws as h1 h2 h3 => ?_, perm_ok rfl⟩
    match us, h1, ws, h2, h3 with
    | [a0, a1], _, [], _, h3 =>
      have e := Option.some.inj (show some [a0, a1] = some as from h3)
      subst e
      rfl
  cases hp
theorem b_restricted_rooted {K : PySem.W.Frag} {f : Addr} {fd : FuncData} (F : FunX K "restricted_rooted" (top 39) f fd) : ∀ p ∈ p_restricted_rooted, BindP K fd d_restricted_rooted.ps p.1 p.2.1 p.2.2 ∧ ∀ vs : List V, vs.length = p.1 + p.2.1.length → ∀ as, permL p.2.2 vs = some as → as.length = d_restricted_rooted.ps.length := by
  intro p hp
  unfold p_restricted_rooted at hp
  rcases List.mem_cons.mp hp
                                                                                                    with rfl | hp
  · refine ⟨bind_by F fun kV doc pm an cdv ct us ws as h1 h2 h3 => ?_, perm_ok rfl⟩
    match us, h1, ws, h2, h3 with
    | [], _, [b0, b1], _, h3 =>
      have e := Option.some.inj (show some [b1, b0] = some as from h3)
      subst e
      rfl
  rcases List.mem_cons.mp hp
                                                                                                    with rfl | hp
  · refine ⟨bind_by F fun kV doc pm an cdv ct us ws as h1 h2 h3 => ?_, perm_ok rfl⟩
    match us, h1, ws, h2, h3 with
    | [a0, a1], _, [], _, h3 =>
      have e := Option.some.inj (show some [a0, a1] = some as from h3)
      subst e
      rfl
  cases hp
theorem b_least_common {K : PySem.W.Frag} {f : Addr} {fd : FuncData} (F : FunX K "least_common" (top 40) f fd) : ∀ p ∈ p_least_common, BindP K fd d_least_common.ps p.1 p.2.1 p.2.2 ∧ ∀ vs : List V, vs.length = p.1 + p.2.1.length → ∀ as, permL p.2.2 vs = some as → as.length = d_least_common.ps.length := by
  intro p hp
  unfold p_least_common at hp
  rcases List.mem_cons.mp hp
                                                                                                    with rfl | hp
  · refine ⟨bind_by F fun kV doc pm an cdv ct us ws as h1 h2 h3 => ?_, perm_ok rfl⟩
    match us, h1, ws, h2, h3 with
    | [], _, [b0, b1], _, h3 =>
      have e := Option.some.inj (show some [b1, b0] = some as from h3)
      subst e
      rfl
  cases hp
theorem b__law_like {K : PySem.W.Frag} {f : Addr} {fd : FuncData} (F : FunX K "_law_like" (top 42) f fd) : ∀ p ∈ p__law_like, BindP K fd d__law_like.ps p.1 p.2.1 p.2.2 ∧ ∀ vs : List V, vs.length = p.1 + p.2.1.length → ∀ as, permL p.2.2 vs = some as → as.length = d__law_like.ps.length := by
  intro p hp
  unfold p__law_like at hp
  rcases List.mem_cons.mp hp
                                                                                                    with rfl | hp
  · refine ⟨bind_by F fun kV doc pm an cdv ct us ws as h1 h2 h3 => ?_, perm_ok rfl⟩
    match us, h1, ws, h2, h3 with
    | [a0, a1], _, [], _, h3 =>
      have e := Option.some.inj (show some [a0, a1] = some as from h3)
      subst e
      rfl
  cases hp
theorem b__law_in_order {K : PySem.W.Frag} {f : Addr} {fd : FuncData} (F : FunX K "_law_in_order" (top 43) f fd) : ∀ p ∈ p__law_in_order, BindP K fd d__law_in_order.ps p.1 p.2.1 p.2.2 ∧ ∀ vs : List V, vs.length = p.1 + p.2.1.length → ∀ as, permL p.2.2 vs = some as → as.length = d__law_in_order.ps.length := by
  intro p hp
  unfold p__law_in_order at hp
  rcases List.mem_cons.mp hp
                                                                                                    with rfl | hp
  · refine ⟨bind_by F fun kV doc pm an cdv ct us ws as h1 h2 h3 => ?_, perm_ok rfl⟩
    match us, h1, ws, h2, h3 with
    | [a0], _, [], _, h3 =>
      have e := Option.some.inj (show some [a0] = some as from h3)
      subst e
      rfl
  cases hp
theorem b__law_rest {K : PySem.W.Frag} {f : Addr} {fd : FuncData} (F : FunX K "_law_rest" (top 44) f fd) : ∀ p ∈ p__law_rest, BindP K fd d__law_rest.ps p.1 p.2.1 p.2.2 ∧ ∀ vs : List V, vs.length = p.1 + p.2.1.length → ∀ as, permL p.2.2 vs = some as → as.length = d__law_rest.ps.length := by
  intro p hp
  unfold p__law_rest at hp
  rcases List.mem_cons.mp hp
                                                                                                    with rfl | hp
  · refine ⟨bind_by F fun kV doc pm an cdv ct us ws as h1 h2 h3 => ?_, perm_ok rfl⟩
    match us, h1, ws, h2, h3 with
    | [a0, a1], _, [], _, h3 =>
      have e := Option.some.inj (show some [a0, a1] = some as from h3)
      subst e
      rfl
  cases hp
theorem b__law_side {K : PySem.W.Frag} {f : Addr} {fd : FuncData} (F : FunX K "_law_side" (top 45) f fd) : ∀ p ∈ p__law_side, BindP K fd d__law_side.ps p.1 p.2.1 p.2.2 ∧ ∀ vs : List V, vs.length = p.1 + p.2.1.length → ∀ as, permL p.2.2 vs = some as → as.length = d__law_side.ps.length := by
  intro p hp
  unfold p__law_side at hp
  rcases List.mem_cons.mp hp
                                                                                                    with rfl | hp
  · refine ⟨bind_by F fun kV doc pm an cdv ct us ws as h1 h2 h3 => ?_, perm_ok rfl⟩
    match us, h1, ws, h2, h3 with
    | [a0, a1], _, [], _, h3 =>
      have e := Option.some.inj (show some [a0, a1] = some as from h3)
      subst e
      rfl
  cases hp
theorem b__law_cut_to {K : PySem.W.Frag} {f : Addr} {fd : FuncData} (F : FunX K "_law_cut_to" (top 46) f fd) : ∀ p ∈ p__law_cut_to, BindP K fd d__law_cut_to.ps p.1 p.2.1 p.2.2 ∧ ∀ vs : List V, vs.length = p.1 + p.2.1.length → ∀ as, permL p.2.2 vs = some as → as.length = d__law_cut_to.ps.length := by
  intro p hp
  unfold p__law_cut_to at hp
  rcases List.mem_cons.mp hp
                                                                                                    with rfl | hp
  · refine ⟨bind_by F fun kV doc pm an cdv ct us ws as h1 h2 h3 => ?_, perm_ok rfl⟩
    match us, h1, ws, h2, h3 with
    | [a0, a1, a2], _, [], _, h3 =>
      have e := Option.some.inj (show some [a0, a1, a2] = some as from h3)
      subst e
      rfl
  cases hp
theorem b__law_begin {K : PySem.W.Frag} {f : Addr} {fd : FuncData} (F : FunX K "_law_begin" (top 47) f fd) : ∀ p ∈ p__law_begin, BindP K fd d__law_begin.ps p.1 p.2.1 p.2.2 ∧ ∀ vs : List V, vs.length = p.1 + p.2.1.length → ∀ as, permL p.2.2 vs = some as → as.length = d__law_begin.ps.length := by
  intro p hp
  unfold p__law_begin at hp
  rcases List.mem_cons.mp hp
                                                                                                    with rfl | hp
  · refine ⟨bind_by F fun kV doc pm an cdv ct us ws as h1 h2 h3 => ?_, perm_ok rfl⟩
    match us, h1, ws, h2, h3 with
    | [a0], _, [], _, h3 =>
      have e := Option.some.inj (show some [a0] = some as from h3)
      subst e
      rfl
  cases hp
theorem b__law_mixed {K : PySem.W.Frag} {f : Addr} {fd : FuncData} (F : FunX K "_law_mixed" (top 48) f fd) : ∀ p ∈ p__law_mixed, BindP K fd d__law_mixed.ps p.1 p.2.1 p.2.2 ∧ ∀ vs : List V, vs.length = p.1 + p.2.1.length → ∀ as, permL p.2.2 vs = some as → as.length = d__law_mixed.ps.length := by
  intro p hp
  unfold p__law_mixed at hp
  rcases List.mem_cons.mp hp
                                                                                                    with rfl | hp
  · refine ⟨bind_by F fun kV doc pm an cdv ct us ws as h1 h2 h3 => ?_, perm_ok rfl⟩
    match us, h1, ws, h2, h3 with
    | [a0, a1], _, [], _, h3 =>
      have e := Option.some.inj (show some [a0, a1] = some as from h3)
      subst e
      rfl
  cases hp
theorem b__law_draw {K : PySem.W.Frag} {f : Addr} {fd : FuncData} (F : FunX K "_law_draw" (top 49) f fd) : ∀ p ∈ p__law_draw, BindP K fd d__law_draw.ps p.1 p.2.1 p.2.2 ∧ ∀ vs : List V, vs.length = p.1 + p.2.1.length → ∀ as, permL p.2.2 vs = some as → as.length = d__law_draw.ps.length := by
  intro p hp
  unfold p__law_draw at hp
  rcases List.mem_cons.mp hp
                                                                                                    with rfl | hp
  · refine ⟨bind_by F fun kV doc pm an cdv ct us ws as h1 h2 h3 => ?_, perm_ok rfl⟩
    match us, h1, ws, h2, h3 with
    | [a0, a1], _, [], _, h3 =>
      have e := Option.some.inj (show some [a0, a1] = some as from h3)
      subst e
      rfl
  cases hp
theorem b__law_of {K : PySem.W.Frag} {f : Addr} {fd : FuncData} (F : FunX K "_law_of" (top 50) f fd) : ∀ p ∈ p__law_of, BindP K fd d__law_of.ps p.1 p.2.1 p.2.2 ∧ ∀ vs : List V, vs.length = p.1 + p.2.1.length → ∀ as, permL p.2.2 vs = some as → as.length = d__law_of.ps.length := by
  intro p hp
  unfold p__law_of at hp
  rcases List.mem_cons.mp hp
                                                                                                    with rfl | hp
  · refine ⟨bind_by F fun kV doc pm an cdv ct us ws as h1 h2 h3 => ?_, perm_ok rfl⟩
    match us, h1, ws, h2, h3 with
    | [a0, a1], _, [], _, h3 =>
      have e := Option.some.inj (show some [a0, a1] = some as from h3)
      subst e
      rfl
  cases hp
theorem b__law_shuffled {K : PySem.W.Frag} {f : Addr} {fd : FuncData} (F : FunX K "_law_shuffled" (top 51) f fd) : ∀ p ∈ p__law_shuffled, BindP K fd d__law_shuffled.ps p.1 p.2.1 p.2.2 ∧ ∀ vs : List V, vs.length = p.1 + p.2.1.length → ∀ as, permL p.2.2 vs = some as → as.length = d__law_shuffled.ps.length := by
  intro p hp
  unfold p__law_shuffled at hp
  rcases List.mem_cons.mp hp
                                                                                                    with rfl | hp
  · refine ⟨bind_by F fun kV doc pm an cdv ct us ws as h1 h2 h3 => ?_, perm_ok rfl⟩
    match us, h1, ws, h2, h3 with
    | [a0, a1], _, [], _, h3 =>
      have e := Option.some.inj (show some [a0, a1] = some as from h3)
      subst e
      rfl
  cases hp
theorem b__law_some {K : PySem.W.Frag} {f : Addr} {fd : FuncData} (F : FunX K "_law_some" (top 52) f fd) : ∀ p ∈ p__law_some, BindP K fd d__law_some.ps p.1 p.2.1 p.2.2 ∧ ∀ vs : List V, vs.length = p.1 + p.2.1.length → ∀ as, permL p.2.2 vs = some as → as.length = d__law_some.ps.length := by
  intro p hp
  unfold p__law_some at hp
  rcases List.mem_cons.mp hp
                                                                                                    with rfl | hp
  · refine ⟨bind_by F fun kV doc pm an cdv ct us ws as h1 h2 h3 => ?_, perm_ok rfl⟩
    match us, h1, ws, h2, h3 with
    | [a0, a1, a2], _, [], _, h3 =>
      have e := Option.some.inj (show some [a0, a1, a2] = some as from h3)
      subst e
      rfl
  cases hp
theorem b__law_family {K : PySem.W.Frag} {f : Addr} {fd : FuncData} (F : FunX K "_law_family" (top 53) f fd) : ∀ p ∈ p__law_family, BindP K fd d__law_family.ps p.1 p.2.1 p.2.2 ∧ ∀ vs : List V, vs.length = p.1 + p.2.1.length → ∀ as, permL p.2.2 vs = some as → as.length = d__law_family.ps.length := by
  intro p hp
  unfold p__law_family at hp
  rcases List.mem_cons.mp hp
                                                                                                    with rfl | hp
  · refine ⟨bind_by F fun kV doc pm an cdv ct us ws as h1 h2 h3 => ?_, perm_ok rfl⟩
    match us, h1, ws, h2, h3 with
    | [a0, a1, a2], _, [], _, h3 =>
      have e := Option.some.inj (show some [a0, a1, a2] = some as from h3)
      subst e
      rfl
  cases hp
theorem b__law_rooted {K : PySem.W.Frag} {f : Addr} {fd : FuncData} (F : FunX K "_law_rooted" (top 54) f fd) : ∀ p ∈ p__law_rooted, BindP K fd d__law_rooted.ps p.1 p.2.1 p.2.2 ∧ ∀ vs : List V, vs.length = p.1 + p.2.1.length → ∀ as, permL p.2.2 vs = some as → as.length = d__law_rooted.ps.length := by
  intro p hp
  unfold p__law_rooted at hp
  rcases List.mem_cons.mp hp
                                                                                                    with rfl | hp
  · refine ⟨bind_by F fun kV doc pm an cdv ct us ws as h1 h2 h3 => ?_, perm_ok rfl⟩
    match us, h1, ws, h2, h3 with
    | [a0, a1, a2], _, [], _, h3 =>
      have e := Option.some.inj (show some [a0, a1, a2] = some as from h3)
      subst e
      rfl
  cases hp
theorem b__law_tree {K : PySem.W.Frag} {f : Addr} {fd : FuncData} (F : FunX K "_law_tree" (top 55) f fd) : ∀ p ∈ p__law_tree, BindP K fd d__law_tree.ps p.1 p.2.1 p.2.2 ∧ ∀ vs : List V, vs.length = p.1 + p.2.1.length → ∀ as, permL p.2.2 vs = some as → as.length = d__law_tree.ps.length := by
  intro p hp
  unfold p__law_tree at hp
  rcases List.mem_cons.mp hp
                                                                                                    with rfl | hp
  · refine ⟨bind_by F fun kV doc pm an cdv ct us ws as h1 h2 h3 => ?_, perm_ok rfl⟩
    match us, h1, ws, h2, h3 with
    | [a0, a1, a2], _, [], _, h3 =>
      have e := Option.some.inj (show some [a0, a1, a2] = some as from h3)
      subst e
      rfl
  cases hp
theorem b__law_count {K : PySem.W.Frag} {f : Addr} {fd : FuncData} (F : FunX K "_law_count" (top 56) f fd) : ∀ p ∈ p__law_count, BindP K fd d__law_count.ps p.1 p.2.1 p.2.2 ∧ ∀ vs : List V, vs.length = p.1 + p.2.1.length → ∀ as, permL p.2.2 vs = some as → as.length = d__law_count.ps.length := by
  intro p hp
  unfold p__law_count at hp
  rcases List.mem_cons.mp hp
                                                                                                    with rfl | hp
  · refine ⟨bind_by F fun kV doc pm an cdv ct us ws as h1 h2 h3 => ?_, perm_ok rfl⟩
    match us, h1, ws, h2, h3 with
    | [a0, a1, a2], _, [], _, h3 =>
      have e := Option.some.inj (show some [a0, a1, a2] = some as from h3)
      subst e
      rfl
  cases hp
theorem b__law_alone {K : PySem.W.Frag} {f : Addr} {fd : FuncData} (F : FunX K "_law_alone" (top 57) f fd) : ∀ p ∈ p__law_alone, BindP K fd d__law_alone.ps p.1 p.2.1 p.2.2 ∧ ∀ vs : List V, vs.length = p.1 + p.2.1.length → ∀ as, permL p.2.2 vs = some as → as.length = d__law_alone.ps.length := by
  intro p hp
  unfold p__law_alone at hp
  rcases List.mem_cons.mp hp
                                                                                                    with rfl | hp
  · refine ⟨bind_by F fun kV doc pm an cdv ct us ws as h1 h2 h3 => ?_, perm_ok rfl⟩
    match us, h1, ws, h2, h3 with
    | [a0, a1, a2], _, [], _, h3 =>
      have e := Option.some.inj (show some [a0, a1, a2] = some as from h3)
      subst e
      rfl
  cases hp
theorem b__law_least {K : PySem.W.Frag} {f : Addr} {fd : FuncData} (F : FunX K "_law_least" (top 58) f fd) : ∀ p ∈ p__law_least, BindP K fd d__law_least.ps p.1 p.2.1 p.2.2 ∧ ∀ vs : List V, vs.length = p.1 + p.2.1.length → ∀ as, permL p.2.2 vs = some as → as.length = d__law_least.ps.length := by
  intro p hp
  unfold p__law_least at hp
  rcases List.mem_cons.mp hp
                                                                                                    with rfl | hp
  · refine ⟨bind_by F fun kV doc pm an cdv ct us ws as h1 h2 h3 => ?_, perm_ok rfl⟩
    match us, h1, ws, h2, h3 with
    | [a0, a1], _, [], _, h3 =>
      have e := Option.some.inj (show some [a0, a1] = some as from h3)
      subst e
      rfl
  cases hp
theorem b__law_right {K : PySem.W.Frag} {f : Addr} {fd : FuncData} (F : FunX K "_law_right" (top 59) f fd) : ∀ p ∈ p__law_right, BindP K fd d__law_right.ps p.1 p.2.1 p.2.2 ∧ ∀ vs : List V, vs.length = p.1 + p.2.1.length → ∀ as, permL p.2.2 vs = some as → as.length = d__law_right.ps.length := by
  intro p hp
  unfold p__law_right at hp
  rcases List.mem_cons.mp hp
                                                                                                    with rfl | hp
  · refine ⟨bind_by F fun kV doc pm an cdv ct us ws as h1 h2 h3 => ?_, perm_ok rfl⟩
    match us, h1, ws, h2, h3 with
    | [a0, a1, a2], _, [], _, h3 =>
      have e := Option.some.inj (show some [a0, a1, a2] = some as from h3)
      subst e
      rfl
  cases hp
end Lf
end
section
/-! Mp: what the evaluator makes of sets of numbers. -/
namespace Mp
open PySem PySem.Spec
                                                                                                    PyProof.Rows L2

section
variable {α β : Type}
theorem bndR (a : α) (f : α → M β) : bnd (ret a) f = f a := by
  funext s
  rfl
theorem ofR (a : α) : ofO (some a) = ret a := by
  funext s
  rfl
theorem noxR (a : α) : nox (ret a) = ret a := by
  funext s
  rfl
end
/-- a number, a tuple of numbers, a tuple and a list of such -/
abbrev nD (x : Nat) : D := .int (x : Int)
def eS (s : List Nat) : D := .tup (s.map nD)
def eN (s : List Nat) : D := .lst (s.map nD)
def eF (F : List (List Nat)) : D := .tup (F.map eS)
def eL (F : List (List Nat)) : D := .lst (F.map eS)
@[simp] theorem intD_int (i : Int) : intD (.int i) = some i := rfl
@[simp] theorem blD_bl (b : Bool) : blD (.bl b) = some b := rfl
@[simp] theorem outD_rt (d : D) : outD (.rt d) = ret d := rfl
@[simp] theorem outD_nx (ρ : Env) : outD (.nx ρ) = ret .non := rfl
@[simp] theorem shp_int (i : Int) : shp (.int i) = true := by
  simp [shp, SeqAt.shaped, py, PyData.canLay0, PyData.depth]
theorem shp_tup {xs : List D} (h : ∀ d ∈ xs, (py d).canLay0 = true ∧ (py d).depth ≤ 63) : shp (.tup xs) = true ∧ shp (.lst xs) = true := by
  have key : ∀ ys : List D, (∀ d ∈ ys, (py d).canLay0 = true ∧ (py d).depth ≤ 63) → PyData.canLayAll0 (pys ys) = true ∧ PyData.depthAll (pys ys) ≤ 63 := by
    intro ys
    induction ys with
    | nil => intro _; simp [pys, PyData.canLayAll0, PyData.depthAll]
    | cons a r ih =>
      intro h
      obtain ⟨h1, h2⟩ := h a List.mem_cons_self
      obtain ⟨h3, h4⟩ := ih fun d hd => h d (List.mem_cons_of_mem _ hd)
      rw [pys]
      simp only [PyData.canLayAll0, PyData.depthAll, h1, h3, Bool.and_self, true_and]
      omega
  obtain ⟨h1, h2⟩ := key xs h
  constructor <;> simp [shp, SeqAt.shaped, py, PyData.canLay0, PyData.depth, h1] <;> omega
/-- of depth n at most, without texts -/
def lowD (n : Nat) (d : D) : Prop := (py d).canLay0 = true ∧ (py d).depth ≤ n
theorem low_int (n : Nat) (i : Int) : lowD n (.int i) := by simp [lowD, py, PyData.canLay0, PyData.depth]
theorem low_seq {n : Nat} {xs : List D} (h : ∀ d ∈ xs, lowD n d) : lowD (n + 1) (.tup xs) ∧ lowD (n + 1) (.lst xs) := by
  have key : ∀ ys : List D, (∀ d ∈ ys, lowD n d) → PyData.canLayAll0 (pys ys) = true ∧ PyData.depthAll (pys ys) ≤ n := by
    intro ys
    induction ys with
    | nil => intro _; simp [pys, PyData.canLayAll0, PyData.depthAll]
    | cons a r ih =>
      intro h
      obtain ⟨h1, h2⟩ := h a List.mem_cons_self
      obtain ⟨h3, h4⟩ := ih fun d hd => h d (List.mem_cons_of_mem _ hd)
      rw [pys]
      simp only [PyData.canLayAll0, PyData.depthAll, h1, h3, Bool.and_self, true_and]
      omega
  obtain ⟨h1, h2⟩ := key xs h
  constructor <;> simp [lowD, py, PyData.canLay0, PyData.depth, h1] <;> omega
theorem low_mono {n m : Nat} {d : D} (h : lowD n d) (k : n ≤ m) : lowD m d := ⟨h.1, Nat.le_trans h.2 k⟩
theorem shp_low {n : Nat} {d : D} (h : lowD n d) (k : n ≤ 64) : shp d = true := by
  unfold shp SeqAt.shaped
  rw [h.1]
  simpa using Nat.le_trans h.2 k
theorem low_S (s : List Nat) : lowD 1 (eS s) ∧ lowD 1 (eN s) := low_seq fun d hd => by
  obtain ⟨x, _, rfl⟩ := List.mem_map.mp hd
  exact low_int _ _
theorem low_F (F : List (List Nat)) : lowD 2 (eF F) ∧ lowD 2 (eL F) := low_seq fun d hd => by
  obtain ⟨x, _, rfl⟩ := List.mem_map.mp hd
  exact (low_S x).1
@[simp] theorem shp_S (s : List Nat) : shp (eS s) = true := shp_low (low_S s).1 (by decide)
@[simp] theorem shp_N (s : List Nat) : shp (eN s) = true := shp_low (low_S s).2 (by decide)
@[simp] theorem shp_F (F : List (List Nat)) : shp (eF F) = true := shp_low (low_F F).1 (by decide)
@[simp] theorem shp_L (F : List (List Nat)) : shp (eL F) = true := shp_low (low_F F).2 (by decide)
@[simp] theorem shp_nil : shp (.tup []) = true := shp_S []
@[simp] theorem okO_int (a b : Int) : okO (.int a) (.int b) = true := rfl
theorem okOs_nat : ∀ a b : List Nat, okOs (a.map nD) (b.map nD) = true
  | [], _ => by simp [okOs]
  | _ :: _, [] => by simp [okOs]
  | x :: a, y :: b => by simp [okOs, okO, okOs_nat a b]
@[simp] theorem okO_S (a b : List Nat) : okO (eS a) (eS b) = true := by simp [eS, okO, okOs_nat]
@[simp] theorem ltD_int (a b : Int) : ltD (.int a) (.int b) = decide (a < b) := by
  unfold ltD
  rw [cmD, cmI]
  by_cases h : a < b
  · simp [h]
  · by_cases h2 : b < a <;> simp [h, h2]
@[simp] theorem eqv_int (a b : Int) : eqv (.int a) (.int b) = decide (a = b) := by
  simp only [eqv, py, PyData.eqv]
  by_cases h : a = b <;> simp [h]
@[simp] theorem eqv_S (a b : List Nat) : eqv (eS a) (eS b) = decide (a = b) := by
  have key : ∀ a b : List Nat, PyData.eqvAll (pys (a.map nD)) (pys (b.map nD)) = decide (a = b) := by
    intro a
    induction a with
    | nil => intro b; cases b <;> simp [pys, PyData.eqvAll]
    | cons x a ih =>
      intro b
      cases b with
      | nil => simp [pys, PyData.eqvAll]
      | cons y b =>
        simp only [List.map_cons, pys, PyData.eqvAll, ih, py, PyData.eqv]
        by_cases h : x = y <;> by_cases h2 : a = b <;> simp [h, h2] <;> omega
  simp only [eqv, eS, py, PyData.eqv]
  exact key a b
/-! ### comparisons -/
@[simp] theorem c_lt (a b : Int) : cmpD .Lt (.int a) (.int b) = some (decide (a < b)) := by simp [cmpD]
@[simp] theorem c_gt (a b : Int) : cmpD .Gt (.int a) (.int b) = some (decide (b < a)) := by simp [cmpD]
@[simp] theorem c_le (a b : Int) : cmpD .LtE (.int a) (.int b) = some (decide (a ≤ b)) := by
  simp [cmpD]
  by_cases h : b < a <;> simp [h] <;> omega
@[simp] theorem c_ge (a b : Int) : cmpD .GtE (.int a) (.int b) = some (decide (b ≤ a)) := by
  simp [cmpD]
  by_cases h : a < b <;> simp [h] <;> omega
@[simp] theorem c_eq (a b : Int) : cmpD .Eq (.int a) (.int b) = some (decide (a = b)) := by simp [cmpD, eqD]
@[simp] theorem c_eqS (a b : List Nat) : cmpD .Eq (eS a) (eS b) = some (decide (a = b)) := by simp [cmpD, eqD]
@[simp] theorem c_neS (a b : List Nat) : cmpD .NotEq (eS a) (eS b) = some (!decide (a = b)) := by simp [cmpD, eqD]
theorem any_nat (x : Nat) (s : List Nat) : (s.map nD).any (fun z => eqv z (.int (x : Int))) = s.contains x := by
  induction s with
  | nil => rfl
  | cons y s ih =>
    rw [List.map_cons, List.any_cons, ih, eqv_int, List.contains_cons]
    congr 1
    by_cases h : x = y
    · simp [h]
    · have : ¬ (y : Int) = x := by omega
      simp [h, this]
@[simp] theorem c_inS (x : Nat) (s : List Nat) : cmpD .In (.int (x : Int)) (eS s) = some (s.contains x) := by
  have := shp_S s
  unfold eS at this ⊢
  simp only [cmpD, shp_int, this, Bool.and_self, if_true, any_nat]
@[simp] theorem c_ninS (x : Nat) (s : List Nat) : cmpD .NotIn (.int (x : Int)) (eS s) = some (!s.contains x) := by
  have := shp_S s
  unfold eS at this ⊢
  simp only [cmpD, shp_int, this, Bool.and_self, if_true, any_nat]
@[simp] theorem c_ninN (x : Nat) (s : List Nat) : cmpD .NotIn (.int (x : Int)) (eN s) = some (!s.contains x) := by
  have := shp_N s
  unfold eN at this ⊢
  simp only [cmpD, shp_int, this, Bool.and_self, if_true, any_nat]
theorem any_S (s : List Nat) (F : List (List Nat)) : (F.map eS).any (fun z => eqv z (eS s)) = F.contains s := by
  induction F with
  | nil => rfl
  | cons y F ih =>
    rw [List.map_cons, List.any_cons, ih, eqv_S, List.contains_cons]
    congr 1
    by_cases h : s = y
    · simp [h]
    · have : ¬ y = s := fun z => h z.symm
      simp [h, this]
@[simp] theorem c_ninL (s : List Nat) (F : List (List Nat)) : cmpD .NotIn (eS s) (eL F) = some (!F.contains s) := by
  have := shp_L F
  unfold eL at this ⊢
  simp only [cmpD, shp_S, this, Bool.and_self, if_true, any_S]
@[simp] theorem len_S (s : List Nat) : lenD (eS s) = some (.int s.length) := by simp [eS, lenD]
@[simp] theorem len_N (s : List Nat) : lenD (eN s) = some (.int s.length) := by simp [eN, lenD]
@[simp] theorem len_F (F : List (List Nat)) : lenD (eF F) = some (.int F.length) := by simp [eF, lenD]
@[simp] theorem len_L (F : List (List Nat)) : lenD (eL F) = some (.int F.length) := by simp [eL, lenD]
@[simp] theorem seq_S (s : List Nat) : seqL (eS s) = some (s.map nD) := rfl
@[simp] theorem seq_N (s : List Nat) : seqL (eN s) = some (s.map nD) := rfl
@[simp] theorem seq_F (F : List (List Nat)) : seqL (eF F) = some (F.map eS) := rfl
@[simp] theorem seq_L (F : List (List Nat)) : seqL (eL F) = some (F.map eS) := rfl
theorem mut_nat : ∀ s : List Nat, mutDs (s.map nD) = false
  | [] => rfl
  | x :: s => by simp [mutDs, mutD, mut_nat s]
@[simp] theorem mut_S (s : List Nat) : mutD (eS s) = false := by simp [eS, mutD, mut_nat]
theorem mut_map : ∀ F : List (List Nat), mutDs (F.map eS) = false
  | [] => rfl
  | x :: s => by simp [mutDs, mut_map s]
@[simp] theorem mut_F (F : List (List Nat)) : mutD (eF F) = false := by simp [eF, mutD, mut_map]
@[simp] theorem mut_int (i : Int) : mutD (.int i) = false := rfl
@[simp] theorem mut_bl (b : Bool) : mutD (.bl b) = false := rfl
@[simp] theorem mut_non : mutD .non = false := rfl
@[simp] theorem mut_N (s : List Nat) : mutD (eN s) = true := rfl
@[simp] theorem mut_L (F : List (List Nat)) : mutD (eL F) = true := rfl
theorem atI_nat {α : Type} (l : List α) (i : Nat) : atI l (i : Int) = l[i]? := by
  unfold atI ixN
  rw [if_pos (by omega)]
  by_cases h : i < l.length
  · rw [if_pos (by omega)]
    rfl
  · rw [if_neg (by omega), List.getElem?_eq_none (by omega)]
    rfl
@[simp] theorem ty_S (s : List Nat) : tyN (eS s) = some "tuple" := rfl
@[simp] theorem ty_F (F : List (List Nat)) : tyN (eF F) = some "tuple" := rfl
@[simp] theorem getE_zero (d : D) (b : Bool) (ρ : Env) : getE (some (d, b) :: ρ) 0 = some d := rfl
@[simp] theorem getE_succ (x : Option Slot) (ρ : Env) (i : Nat) : getE (x :: ρ) (i + 1) = getE ρ i := by simp [getE]
@[simp] theorem it_val (d : D) : itD .val [d] = seqL d := rfl
@[simp] theorem it_enm (d : D) : itD .enm [d] = (seqL d).map (enmL 0) := rfl
theorem small_nat {n : Nat} (h : n ≤ 1000) : smallI (n : Int) = true := by
  unfold smallI
  rw [decide_eq_true_eq]
  omega
theorem rng_0 (n : Nat) : rngL 0 (n : Int) = (List.range n).map nD := by
  unfold rngL
  rw [show ((n : Int) - 0).toNat = n from by omega]
  exact List.map_congr_left fun i _ => by rw [Int.zero_add]
theorem rng_1 (n : Nat) : rngL 1 (n : Int) = ((List.range (n - 1)).map (· + 1)).map nD := by
  unfold rngL
  rw [show ((n : Int) - 1).toNat = n - 1 from by omega, List.map_map]
  exact List.map_congr_left fun i _ => by
    show D.int (1 + (i : Int)) = D.int ((i + 1 : Nat) : Int)
    congr 1
    omega
@[simp] theorem it_rng0 (n : Nat) (h : n ≤ 1000) : itD .rng [.int (n : Int)] = some ((List.range n).map nD) := by
  rw [show itD .rng [.int (n : Int)] = if smallI n then some (rngL 0 n) else none from rfl, small_nat h, if_pos rfl, rng_0]
@[simp] theorem it_rng1 (n : Nat) (h : n ≤ 1000) : itD .rng [.int 1, .int (n : Int)] = some (((List.range (n - 1)).map (· + 1)).map nD) := by
  rw [show itD .rng [.int 1, .int (n : Int)] = if smallI 1 && smallI n then some (rngL 1 n) else none from rfl, small_nat h, if_pos (by decide), rng_1]
@[simp] theorem b_add (a b : Int) : binD .Add (.int a) (.int b) = some (.int (a + b)) := rfl
@[simp] theorem b_sub (a b : Int) : binD .Sub (.int a) (.int b) = some (.int (a - b)) := rfl
@[simp] theorem b_mod (a b : Int) (h : 0 < b) : binD .Mod (.int a) (.int b) = some (.int (a % b)) := if_pos h
@[simp] theorem b_div (a b : Int) (h : 0 < b ∧ b < 1073741824) : binD .FloorDiv (.int a) (.int b) = some (.int (a / b)) := if_pos h
@[simp] theorem bi_len (d : D) : biD .len [d] = lenD d := rfl
@[simp] theorem bi_tup (d : D) : biD .tup [d] = (seqL d).map .tup := rfl
@[simp] theorem bi_lst (d : D) : biD .lst [d] = (seqL d).map .lst := rfl
@[simp] theorem bi_int (i : Int) : biD .int [.int i] = some (.int i) := rfl
@[simp] theorem tr_bl (b : Bool) : truthD (.bl b) = some b := rfl
@[simp] theorem ix_S (s : List Nat) (i : Nat) : ixD (eS s) (.int (i : Int)) = (s[i]?).map nD := by
  show atI (s.map nD) (i : Int) = _
  rw [atI_nat, List.getElem?_map]
@[simp] theorem ix_F (F : List (List Nat)) (i : Nat) : ixD (eF F) (.int (i : Int)) = (F[i]?).map eS := by
  show atI (F.map eS) (i : Int) = _
  rw [atI_nat, List.getElem?_map]
/-! ### walks -/
section
variable {α β γ : Type}
theorem colM_map {f : D → M (Option β)} {g : α → Option β} {h : α → D} : ∀ {xs : List α}, (∀ x ∈ xs, f (h x) = ret (g x)) → colM f (xs.map h) = ret (xs.filterMap g)
  | [], _ => rfl
  | x :: xs, k => by
    rw [List.map_cons, colM, k x List.mem_cons_self, colM_map fun y hy => k y (List.mem_cons_of_mem _ hy), bnd_ret, bnd_ret, List.filterMap_cons]
    cases g x <;> rfl
theorem quM_map {al : Bool} {f : D → M Bool} {p : α → Bool} {h : α → D} : ∀ {xs : List α}, (∀ x ∈ xs, f (h x) = ret (p x)) → quM al f (xs.map h) = ret (if al then xs.all p else xs.any p)
  | [], _ => by cases al <;> rfl
  | x :: xs, k => by
    rw [List.map_cons, quM, k x List.mem_cons_self, quM_map fun y hy => k y (List.mem_cons_of_mem _ hy), bnd_ret]
    cases al <;> cases e : p x <;> simp [e]
theorem quM_true {f : D → M Bool} : ∀ {xs : List D}, (∀ x ∈ xs, f x = ret true) → quM true f xs = ret true
  | [], _ => rfl
  | x :: xs, k => by
    rw [quM, k x List.mem_cons_self, bnd_ret, if_pos rfl]
    exact quM_true fun y hy => k y (List.mem_cons_of_mem _ hy)
end
end Mp
end
section
/-! Mp: families of sets in their order. -/
namespace Mp
open PySem PySem.Spec
                                                                                                    PyProof.Rows L2

/-- by length, then by numbers -/
def LtS (a b : List Nat) : Prop := a.length < b.length ∨ (a.length = b.length ∧ a < b)
theorem nlt_irrefl (a : List Nat) : ¬ a < a := List.lt_irrefl a
theorem nlt_tri (a b : List Nat) : a < b ∨ a = b ∨ b < a := by
  by_cases h : a < b
  · exact .inl h
  · by_cases h2 : b < a
    · exact .inr (.inr h2)
    · exact .inr (.inl (lst_tri a b h h2))
theorem LtS.irrefl {a : List Nat} (h : LtS a a) : False := h.elim (fun h => Nat.lt_irrefl _ h) fun h => nlt_irrefl _ h.2
theorem LtS.trans {a b c : List Nat} (h1 : LtS a b) (h2 : LtS b c) : LtS a c := by
  rcases h1 with h1 | ⟨e1, h1⟩ <;> rcases h2 with h2 | ⟨e2, h2⟩
  · exact .inl (by omega)
  · exact .inl (by omega)
  · exact .inl (by omega)
  · exact .inr ⟨by omega, List.lt_trans h1 h2⟩
theorem LtS.tri (a b : List Nat) : LtS a b ∨ a = b ∨ LtS b a := by
  rcases Nat.lt_trichotomy a.length b.length with h | h | h
  · exact .inl (.inl h)
  · rcases nlt_tri a b with k | k | k
    · exact .inl (.inr ⟨h, k⟩)
    · exact .inr (.inl k)
    · exact .inr (.inr (.inr ⟨h.symm, k⟩))
  · exact .inr (.inr (.inl h))
abbrev Fam := List (List Nat)
def Up (F : Fam) : Prop := F.Pairwise LtS
/-- the same sets in the same order -/
theorem Up.unique : ∀ {F G : Fam}, Up F → Up G → (∀ s, s ∈ F ↔ s ∈ G) → F = G
  | [], [], _, _, _ => rfl
  | [], b :: G, _, _, h => by
    have := (h b).mpr List.mem_cons_self
    cases this
  | a :: F, [], _, _, h => by
    have := (h a).mp List.mem_cons_self
    cases this
  | a :: F, b :: G, hf, hg, h => by
    rw [Up, List.pairwise_cons] at hf hg
    have ab : a = b := by
      rcases List.mem_cons.mp ((h a).mp List.mem_cons_self) with e | ha
      · exact e
      · rcases List.mem_cons.mp ((h b).mpr List.mem_cons_self) with e | hb
        · exact e.symm
        · exact ((hf.1 b hb).trans (hg.1 a ha)).irrefl.elim
    subst ab
    congr 1
    refine Up.unique hf.2 hg.2 fun s => ⟨fun hs => ?_, fun hs => ?_⟩
    · rcases List.mem_cons.mp ((h s).mp (List.mem_cons_of_mem _ hs)) with e | z
      · rw [e] at hs
        exact (hf.1 a hs).irrefl.elim
      · exact z
    · rcases List.mem_cons.mp ((h s).mpr (List.mem_cons_of_mem _ hs)) with e | z
      · rw [e] at hs
        exact (hg.1 a hs).irrefl.elim
      · exact z
instance (a b : List Nat) : Decidable (LtS a b) := by unfold LtS; infer_instance
def ins (a : List Nat) : Fam → Fam
  | [] => [a]
  | b :: l => if a = b then b :: l else if LtS a b then a :: b :: l else b :: ins a l
theorem mem_ins' {a s : List Nat} : ∀ {l : Fam}, s ∈ ins a l ↔ s = a ∨ s ∈ l
  | [] => by simp [ins]
  | b :: l => by
    unfold ins
    split
    · rename_i e
      rw [e, List.mem_cons]
      exact ⟨fun h => .inr h, fun h => h.elim .inl id⟩
    · split
      · rw [List.mem_cons]
      · rw [List.mem_cons, mem_ins', List.mem_cons]
        exact ⟨fun h => h.elim (fun h => .inr (.inl h)) fun h => h.elim .inl fun h => .inr (.inr h), fun h => h.elim (fun h => .inr (.inl h)) fun h => h.elim .inl fun h => .inr (.inr h)⟩
theorem up_ins {a : List Nat} : ∀ {l : Fam}, Up l → Up (ins a l)
  | [], _ => List.pairwise_singleton _ _
  | b :: l, h => by
    unfold ins
    split
    · exact h
    · rename_i ne
      rw [Up, List.pairwise_cons] at h
      split
      · rename_i lt
        refine List.pairwise_cons.mpr ⟨fun s hs => ?_, List.pairwise_cons.mpr h⟩
        rcases List.mem_cons.mp hs with e | z
        · rw [e]
          exact lt
        · exact lt.trans (h.1 s z)
      · rename_i nlt
        have ba : LtS b a := (LtS.tri a b).elim (fun z => absurd z nlt) fun z => z.elim (fun z => absurd z ne) id
        refine List.pairwise_cons.mpr ⟨fun s hs => ?_, up_ins h.2⟩
        rcases mem_ins'.mp hs with e | z
        · rw [e]
          exact ba
        · exact h.1 s z
/-- each once, in order -/
def canon : Fam → Fam
  | [] => []
  | a :: r => ins a (canon r)
theorem mem_canon {s : List Nat} : ∀ {F : Fam}, s ∈ canon F ↔ s ∈ F
  | [] => Iff.rfl
  | a :: r => by rw [canon, mem_ins', mem_canon, List.mem_cons]
theorem up_canon : ∀ F : Fam, Up (canon F)
  | [] => List.Pairwise.nil
  | a :: r => up_ins (up_canon r)
theorem len_ins' {a : List Nat} : ∀ l : Fam, (ins a l).length ≤ l.length + 1
  | [] => by simp [ins]
  | b :: l => by
    unfold ins
    split
    · simp
    · split
      · simp
      · have := len_ins' (a := a) l
        simp only [List.length_cons]
        omega
theorem len_canon : ∀ F : Fam, (canon F).length ≤ F.length
  | [] => Nat.le_refl _
  | a :: r => by
    have h1 := len_canon r
    have h2 := len_ins' (a := a) (canon r)
    rw [canon, List.length_cons]
    omega
theorem canon_same {F G : Fam} (h : ∀ s, s ∈ F ↔ s ∈ G) : canon F = canon G := (up_canon F).unique (up_canon G) fun s => by rw [mem_canon, mem_canon]; exact h s
theorem canon_up {F : Fam} (h : Up F) : canon F = F := (up_canon F).unique h fun s => mem_canon
/-! ### as data -/
/-- a set behind its length -/
def kS2 (a : List Nat) : D := .tup [.int (a.length : Int), eS a]
theorem cm_nat (a b : Nat) : cmI (a : Int) (b : Int) = if a < b then .lt else if b < a then .gt else .eq := by
  unfold cmI
  by_cases h : a < b
  · rw [if_pos (by omega), if_pos h]
  · rw [if_neg (by omega), if_neg h]
    by_cases h2 : b < a
    · rw [if_pos (by omega), if_pos h2]
    · rw [if_neg (by omega), if_neg h2]
theorem cms_nat : ∀ a b : List Nat, (cmDs (a.map nD) (b.map nD) = .lt ↔ a < b) ∧ (cmDs (a.map nD) (b.map nD) = .eq ↔ a = b)
  | [], [] => by simp [cmDs]
  | [], _ :: _ => by simp [cmDs]
  | _ :: _, [] => by simp [cmDs]
  | x :: a, y :: b => by
    obtain ⟨h1, h2⟩ := cms_nat a b
    rw [List.map_cons, List.map_cons, cmDs, List.cons_lt_cons_iff, cmD, cm_nat]
    by_cases h : x < y
    · have : ¬ x = y := by omega
      simp [h, this, Ordering.then]
    · by_cases k : y < x
      · have : ¬ x = y := by omega
        simp [h, k, this, Ordering.then]
      · have e : x = y := by omega
        subst e
        simp [Ordering.then, h1, h2]
theorem ltD_S (a b : List Nat) : ltD (eS a) (eS b) = true ↔ a < b := by
  rw [ltD_iff, eS, eS, cmD]
  exact (cms_nat a b).1
theorem ltD_K (a b : List Nat) : ltD (kS2 a) (kS2 b) = true ↔ LtS a b := by
  rw [ltD_iff, kS2, kS2, cmD, cmDs, cmDs, cmDs, cmD, cm_nat]
  unfold LtS
  by_cases h : a.length < b.length
  · simp [h, Ordering.then]
  · by_cases k : b.length < a.length
    · have : ¬ a.length = b.length := by omega
      simp [h, k, this, Ordering.then]
    · have e : a.length = b.length := by omega
      rw [if_neg h, if_neg k]
      have := ltD_S a b
      rw [ltD_iff] at this
      rw [← this]
      cases hc : cmD (eS a) (eS b) <;> simp [Ordering.then, h, e]
end Mp
end
section
/-! Mp: the sorts of families. -/
namespace Mp
open PySem PySem.Spec
                                                                                                    PyProof.Rows L2

theorem num_nat : ∀ a : List Nat, numDs (a.map nD) = true
  | [] => rfl
  | x :: a => by simp [numDs, numD, num_nat a]
theorem num_S (a : List Nat) : numD (eS a) = true := by simp [eS, numD, num_nat]
theorem num_K (a : List Nat) : numD (kS2 a) = true := by simp [kS2, numD, numDs, num_S]
theorem dep_nat : ∀ a : List Nat, NestedKey.depthAll (kDs (a.map nD)) = 0
  | [] => rfl
  | x :: a => by simp [kDs, kD, NestedKey.depthAll, NestedKey.depth, dep_nat a]
theorem dep_S (a : List Nat) : (kD (eS a)).depth = 1 := by simp [eS, kD, NestedKey.depth, dep_nat]
theorem dep_K (a : List Nat) : (kD (kS2 a)).depth = 2 := by simp [kS2, kD, kDs, NestedKey.depth, NestedKey.depthAll, dep_S]
theorem mem_S {a : List Nat} (h : a ≠ []) : memOk (eS a) = true := by
  unfold memOk
  rw [num_S, dep_S]
  cases a with
  | nil => exact absurd rfl h
  | cons x r => rfl
theorem mem_K (a : List Nat) : memOk (kS2 a) = true := by
  unfold memOk
  rw [num_K, dep_K]
  rfl
theorem shp_K (a : List Nat) : shp (kS2 a) = true := shp_low (low_seq (n := 1) (xs := [.int (a.length : Int), eS a]) fun d hd => by
  rcases List.mem_cons.mp hd with e | hd
  · rw [e]
    exact low_int _ _
  · rw [List.mem_singleton.mp hd]
    exact (low_S a).1).1 (by decide)
theorem okO_K (a b : List Nat) : okO (kS2 a) (kS2 b) = true := by simp [kS2, okO, okOs]
theorem srt_K (xs : Fam) : srtOk (xs.map kS2) = true := by
  unfold srtOk
  simp only [Bool.and_eq_true,
                                                                                                    Bool.or_eq_true]
  refine ⟨⟨List.all_eq_true.mpr fun x hx => List.all_eq_true.mpr fun y hy => ?_, List.all_eq_true.mpr fun x hx => ?_⟩, .inl (List.all_eq_true.mpr fun x hx => ?_)⟩
  · obtain ⟨a, _, rfl⟩ := List.mem_map.mp hx
    obtain ⟨b, _, rfl⟩ :=
                                                                                                    List.mem_map.mp hy
    exact okO_K a b
  · obtain ⟨a, _, rfl⟩ := List.mem_map.mp hx
    exact shp_K a
  · obtain ⟨a, _, rfl⟩ := List.mem_map.mp hx
    rfl
theorem srt_S {xs : Fam} (h : ∀ a ∈ xs, a ≠ []) : srtOk (xs.map eS) = true := by
  unfold srtOk
  simp only [Bool.and_eq_true,
                                                                                                    Bool.or_eq_true]
  refine ⟨⟨List.all_eq_true.mpr fun x hx => List.all_eq_true.mpr fun y hy => ?_, List.all_eq_true.mpr fun x hx => ?_⟩, .inl (List.all_eq_true.mpr fun x hx => ?_)⟩
  · obtain ⟨a, _, rfl⟩ := List.mem_map.mp hx
    obtain ⟨b, _, rfl⟩ :=
                                                                                                    List.mem_map.mp hy
    exact okO_S a b
  · obtain ⟨a, _, rfl⟩ := List.mem_map.mp hx
    exact shp_S a
  · obtain ⟨a, ha, rfl⟩ := List.mem_map.mp hx
    have := h a ha
    cases a with
    | nil => exact absurd rfl this
    | cons x r => rfl
theorem map_back {α β : Type} {f : α → β} {xs : List α} : ∀ {l : List β}, (∀ d ∈ l, d ∈ xs.map f) → ∃ zs : List α, l = zs.map f ∧ ∀ z ∈ zs, z ∈ xs
  | [], _ => ⟨[], rfl, fun z hz => (by cases hz)⟩
  | d :: l, h => by
    obtain ⟨x, hx, e⟩ := List.mem_map.mp (h d List.mem_cons_self)
    obtain ⟨zs, e2, h2⟩ := map_back fun y hy => h y (List.mem_cons_of_mem _ hy)
    exact ⟨x :: zs, by rw [List.map_cons, e, e2], fun z hz => (List.mem_cons.mp hz).elim (fun e => e ▸ hx) (h2 z)⟩
/-- each once -/
theorem nub_back {f : List Nat → D} (inj : ∀ a b, f a = f b → a = b) (hn : ∀ a, numD (f a) = true) (xs : Fam) : ∃ zs : Fam, nubD (xs.map f) = zs.map f ∧ zs.Nodup ∧ ∀ s, s ∈ zs ↔ s ∈ xs := by
  obtain ⟨zs, e, h⟩ := map_back (f := f) (xs := xs) (l := nubD (xs.map f)) fun d hd => nub_mem hd
  refine ⟨zs, e, ?_, fun s => ⟨h s, fun hs => ?_⟩⟩
  · have := nub_nodup (xs.map f)
    rw [e] at this
    exact List.Pairwise.of_map f (fun a b hab e => hab (congrArg f e)) this
  · have : f s ∈ nubD (xs.map f) := mem_nub (fun d hd => by
      obtain ⟨a, _, rfl⟩ := List.mem_map.mp hd
      exact hn a) (List.mem_map.mpr ⟨s, hs, rfl⟩)
    rw [e] at this
    obtain ⟨a, ha, e2⟩ := List.mem_map.mp this
    rw [← inj a s e2]
    exact ha
theorem nD_inj {x y : Nat} (h : nD x = nD y) : x = y := by
  injection h with h
  omega
theorem eS_inj (a b : List Nat) (h : eS a = eS b) : a = b := by
  unfold eS at h
  injection h with h
  exact List.map_inj_right (fun x y => nD_inj) |>.mp h
theorem kS_inj (a b : List Nat) (h : kS2 a = kS2 b) : a = b := by
  unfold kS2 at h
  injection h with h
  injection h with h1 h2
  injection h2 with h2 h3
  exact eS_inj a b h2
theorem srts_S {xs : Fam} (ne : ∀ a ∈ xs, a ≠ []) (few : xs.length < 64) : ∃ zs : Fam, bi1 .srts (.lst (xs.map eS)) = some (.lst (zs.map eS)) ∧ zs.Nodup ∧ ∀ s, s ∈ zs ↔ s ∈ xs := by
  obtain ⟨ys, e, nd, h⟩ := nub_back eS_inj num_S xs
  have e2 : bi1 .srts (.lst (xs.map eS)) = some (.lst (sortD (nubD (xs.map eS)))) := by
    show (if srtOk (xs.map eS) && (xs.map eS).all memOk && decide ((xs.map eS).length < 64) then some (D.lst (sortD (nubD (xs.map eS)))) else none) = _
    rw [srt_S ne, List.length_map, decide_eq_true few, if_pos]
    simp only [Bool.true_and, Bool.and_true, List.all_eq_true]
    intro d hd
    obtain ⟨a, ha, rfl⟩ := List.mem_map.mp hd
    exact mem_S (ne a ha)
  obtain ⟨zs, p, e3⟩ := perm_back (f := eS) (sort_perm (nubD (xs.map eS))) ys e
  exact ⟨zs, by rw [e2, e3], p.nodup_iff.mpr nd, fun s => by rw [p.mem_iff]; exact h s⟩
/-- sorted by keys that tell the order -/
theorem up_of {L : Fam} (nd : L.Nodup) (h : L.Pairwise fun a b => ¬ LtS b a) : Up L := List.Pairwise.imp (fun {a b} ⟨h1, h2⟩ => (LtS.tri a b).elim id fun z => z.elim (fun z => absurd z h2) fun z => absurd z h1) (h.and nd)
theorem srts_K {xs : Fam} (few : xs.length < 64) : bi1 .srts (.lst (xs.map kS2)) = some (.lst ((canon xs).map kS2)) := by
  obtain ⟨ys, e, nd, h⟩ := nub_back kS_inj num_K xs
  have e2 : bi1 .srts (.lst (xs.map kS2)) = some (.lst (sortD (nubD (xs.map kS2)))) := by
    show (if srtOk (xs.map kS2) && (xs.map kS2).all memOk && decide ((xs.map kS2).length < 64) then some (D.lst (sortD (nubD (xs.map kS2)))) else none) = _
    rw [srt_K, List.length_map, decide_eq_true few, if_pos]
    simp only [Bool.true_and, Bool.and_true, List.all_eq_true]
    intro d hd
    obtain ⟨a, ha, rfl⟩ := List.mem_map.mp hd
    exact mem_K a
  obtain ⟨zs, p, e3⟩ := perm_back (f := kS2) (sort_perm (nubD (xs.map kS2))) ys e
  rw [e2, e3]
  have pw := sort_pw (nubD (xs.map kS2))
  rw [e3] at pw
  have up : Up zs := up_of (p.nodup_iff.mpr nd) (List.Pairwise.imp (fun {a b} hab z => by
    rw [le_data (okO_K b a), Bool.not_eq_true'] at hab
    rw [(ltD_K b a).mpr z] at hab
    cases hab) (List.pairwise_map.mp pw))
  rw [(up_canon xs).unique up fun s => by rw [mem_canon, p.mem_iff]; exact (h s).symm]
theorem sortK_S {zs : Fam} (nd : zs.Nodup) : (sortK ((zs.map kS2).zip (zs.map eS))).map (·.2) = (canon zs).map eS := by
  have ez : (zs.map kS2).zip (zs.map eS) = zs.map fun a => (kS2 a, eS a) := by
    induction zs with
    | nil => rfl
    | cons a r ih => rw [List.map_cons, List.map_cons, List.zip_cons_cons, ih (List.nodup_cons.mp nd).2, List.map_cons]
  have tot : PySem.W.TotalLe (PySem.W.dataLe false fun p : D × D => py p.1) := PySem.W.sortLe_total ..
  obtain ⟨L, p, e⟩ := perm_back (f := fun a => (kS2 a, eS a)) (List.mergeSort_perm ((zs.map kS2).zip (zs.map eS)) (PySem.W.dataLe false fun p : D × D => py p.1)) zs ez
  have pw : (sortK ((zs.map kS2).zip (zs.map eS))).Pairwise fun a b => PySem.W.dataLe false (fun p : D × D => py p.1) a b = true :=
    List.pairwise_mergeSort (fun a b c => tot.trans a b c) (fun a b => by simpa using tot.total a b) _
  have e : sortK ((zs.map kS2).zip (zs.map eS)) = L.map fun a => (kS2 a, eS a) := e
  rw [e] at pw ⊢
  have up : Up L := up_of (p.nodup_iff.mpr nd) (List.Pairwise.imp (fun {a b} hab z => by
    have hab : PySem.W.dataLe false py (kS2 a) (kS2 b) = true := hab
    rw [le_data (okO_K b a), Bool.not_eq_true'] at hab
    rw [(ltD_K b a).mpr z] at hab
    cases hab) (List.pairwise_map.mp pw))
  rw [(up_canon zs).unique up fun s => by rw [mem_canon, p.mem_iff], List.map_map]
  rfl
end Mp
end
section
namespace Lf
open PySem Mp
theorem t_is_whole : M.tab "is_whole" = some (.code d_is_whole.ps.length d_is_whole.N.length c_is_whole) := by kernel_rfl
theorem t_is_number : M.tab "is_number" = some (.code d_is_number.ps.length d_is_number.N.length c_is_number) := by kernel_rfl
theorem t_is_set : M.tab "is_set" = some (.code d_is_set.ps.length d_is_set.N.length c_is_set) := by kernel_rfl
theorem t_need_set : M.tab "need_set" = some (.code d_need_set.ps.length d_need_set.N.length c_need_set) := by kernel_rfl
theorem t_everything : M.tab "everything" = some (.code d_everything.ps.length d_everything.N.length c_everything) := by kernel_rfl
theorem t_without : M.tab "without" = some (.code d_without.ps.length d_without.N.length c_without) := by kernel_rfl
theorem t_common : M.tab "common" = some (.code d_common.ps.length d_common.N.length c_common) := by kernel_rfl
theorem t_within : M.tab "within" = some (.code d_within.ps.length d_within.N.length c_within) := by kernel_rfl
theorem t_order_of : M.tab "order_of" = some (.code d_order_of.ps.length d_order_of.N.length c_order_of) := by kernel_rfl
theorem t_in_order : M.tab "in_order" = some (.code d_in_order.ps.length d_in_order.N.length c_in_order) := by kernel_rfl
theorem t_first_wrong : M.tab "first_wrong" = some (.code d_first_wrong.ps.length d_first_wrong.N.length c_first_wrong) := by kernel_rfl
theorem t_is_split : M.tab "is_split" = some (.code d_is_split.ps.length d_is_split.N.length c_is_split) := by kernel_rfl
theorem t_is_trivial : M.tab "is_trivial" = some (.code d_is_trivial.ps.length d_is_trivial.N.length c_is_trivial) := by kernel_rfl
theorem t_side_of : M.tab "side_of" = some (.code d_side_of.ps.length d_side_of.N.length c_side_of) := by kernel_rfl
theorem t_do_fit : M.tab "do_fit" = some (.code d_do_fit.ps.length d_do_fit.N.length c_do_fit) := by kernel_rfl
theorem t_is_inner_split : M.tab "is_inner_split" = some (.code d_is_inner_split.ps.length d_is_inner_split.N.length c_is_inner_split) := by kernel_rfl
theorem t_is_cluster : M.tab "is_cluster" = some (.code d_is_cluster.ps.length d_is_cluster.N.length c_is_cluster) := by kernel_rfl
theorem t_wrong_family : M.tab "wrong_family" = some (.code d_wrong_family.ps.length d_wrong_family.N.length c_wrong_family) := by kernel_rfl
theorem t_wrong_tree : M.tab "wrong_tree" = some (.code d_wrong_tree.ps.length d_wrong_tree.N.length c_wrong_tree) := by kernel_rfl
theorem t_need_tree : M.tab "need_tree" = some (.code d_need_tree.ps.length d_need_tree.N.length c_need_tree) := by kernel_rfl
theorem t_need_rooted : M.tab "need_rooted" = some (.code d_need_rooted.ps.length d_need_rooted.N.length c_need_rooted) := by kernel_rfl
theorem t_all_clusters : M.tab "all_clusters" = some (.code d_all_clusters.ps.length d_all_clusters.N.length c_all_clusters) := by kernel_rfl
theorem t_inner_splits : M.tab "inner_splits" = some (.code d_inner_splits.ps.length d_inner_splits.N.length c_inner_splits) := by kernel_rfl
theorem t_unrooted_so : M.tab "unrooted_so" = some (.code d_unrooted_so.ps.length d_unrooted_so.N.length c_unrooted_so) := by kernel_rfl
theorem t_renumbered : M.tab "renumbered" = some (.code d_renumbered.ps.length d_renumbered.N.length c_renumbered) := by kernel_rfl
theorem t_restricted_so : M.tab "restricted_so" = some (.code d_restricted_so.ps.length d_restricted_so.N.length c_restricted_so) := by kernel_rfl
theorem t_restricted_rooted_so : M.tab "restricted_rooted_so" = some (.code d_restricted_rooted_so.ps.length d_restricted_rooted_so.N.length c_restricted_rooted_so) := by kernel_rfl
theorem t_unrooted : M.tab "unrooted" = some (.code d_unrooted.ps.length d_unrooted.N.length c_unrooted) := by kernel_rfl
theorem t_restricted : M.tab "restricted" = some (.code d_restricted.ps.length d_restricted.N.length c_restricted) := by kernel_rfl
theorem t_restricted_rooted : M.tab "restricted_rooted" = some (.code d_restricted_rooted.ps.length d_restricted_rooted.N.length c_restricted_rooted) := by kernel_rfl
theorem t_least_common : M.tab "least_common" = some (.code d_least_common.ps.length d_least_common.N.length c_least_common) := by kernel_rfl
theorem t__law_like : M.tab "_law_like" = some (.code d__law_like.ps.length d__law_like.N.length c__law_like) := by kernel_rfl
theorem t__law_in_order : M.tab "_law_in_order" = some (.code d__law_in_order.ps.length d__law_in_order.N.length c__law_in_order) := by kernel_rfl
theorem t__law_rest : M.tab "_law_rest" = some (.code d__law_rest.ps.length d__law_rest.N.length c__law_rest) := by kernel_rfl
theorem t__law_side : M.tab "_law_side" = some (.code d__law_side.ps.length d__law_side.N.length c__law_side) := by kernel_rfl
theorem t__law_cut_to : M.tab "_law_cut_to" = some (.code d__law_cut_to.ps.length d__law_cut_to.N.length c__law_cut_to) := by kernel_rfl
theorem t__law_mixed : M.tab "_law_mixed" = some (.code d__law_mixed.ps.length d__law_mixed.N.length c__law_mixed) := by kernel_rfl
theorem t__law_draw : M.tab "_law_draw" = some (.code d__law_draw.ps.length d__law_draw.N.length c__law_draw) := by kernel_rfl
theorem t__law_of : M.tab "_law_of" = some (.code d__law_of.ps.length d__law_of.N.length c__law_of) := by kernel_rfl
theorem t__law_shuffled : M.tab "_law_shuffled" = some (.code d__law_shuffled.ps.length d__law_shuffled.N.length c__law_shuffled) := by kernel_rfl
theorem t__law_some : M.tab "_law_some" = some (.code d__law_some.ps.length d__law_some.N.length c__law_some) := by kernel_rfl
theorem t__law_family : M.tab "_law_family" = some (.code d__law_family.ps.length d__law_family.N.length c__law_family) := by kernel_rfl
theorem t__law_rooted : M.tab "_law_rooted" = some (.code d__law_rooted.ps.length d__law_rooted.N.length c__law_rooted) := by kernel_rfl
theorem t__law_tree : M.tab "_law_tree" = some (.code d__law_tree.ps.length d__law_tree.N.length c__law_tree) := by kernel_rfl
theorem t__law_count : M.tab "_law_count" = some (.code d__law_count.ps.length d__law_count.N.length c__law_count) := by kernel_rfl
theorem t__law_alone : M.tab "_law_alone" = some (.code d__law_alone.ps.length d__law_alone.N.length c__law_alone) := by kernel_rfl
theorem t__law_least : M.tab "_law_least" = some (.code d__law_least.ps.length d__law_least.N.length c__law_least) := by kernel_rfl
theorem t__law_right : M.tab "_law_right" = some (.code d__law_right.ps.length d__law_right.N.length c__law_right) := by kernel_rfl
theorem t_lamC : M.tab "lamC" = some (.lam 2 2 (.call "is_cluster" [.var 0, .var 1] [])) := by kernel_rfl
theorem t_lamI : M.tab "lamI" = some (.lam 2 2 (.call "is_inner_split" [.var 0, .var 1] [])) := by kernel_rfl
abbrev Γ (n : Nat) : Gam := callF M.tab n
/-- an ascending set of numbers below c -/
def IsSet (c : Nat) (s : List Nat) : Prop := s.Pairwise (· < ·) ∧ ∀ x ∈ s, x < c
theorem ty_bool (i : Int) : tyD (.int i) "bool" = some false := by kernel_rfl
theorem ty_int (i : Int) : tyD (.int i) "int" = some true := by kernel_rfl
theorem ty_tupS (s : List Nat) : tyD (eS s) "tuple" = some true := by kernel_rfl
theorem ty_tupF (s : List (List Nat)) : tyD (eF s) "tuple" = some true := by kernel_rfl
theorem ty_tup (s : List D) : tyD (.tup s) "tuple" = some true := by kernel_rfl
theorem f_is_whole (n : Nat) (i : Int) : Γ (n + 1) "is_whole" [.int i] = ret (.bl true) := by
  rw [Γ, call_code t_is_whole rfl]
  simp [c_is_whole, d_is_whole, evCs, evC, ev, evs, tst, tsto, evo, initE, permL, pickL, bindG, bindGs, after, bndR, ofR, noxR, -bnd_ret, -ofO_some, -nox_ret, ty_bool, ty_int]
theorem f_is_number (n : Nat) (i a b : Int) : Γ (n + 2) "is_number" [.int i, .int a, .int b] = ret (.bl (decide (a ≤ i) && decide (i ≤ b))) := by
  rw [Γ, call_code t_is_number rfl]
  simp [c_is_number, d_is_number, evCs, evC, ev, evs, tst, tsto, evo, initE, permL, pickL, bindG, bindGs, after, bndR, ofR, noxR, -bnd_ret, -ofO_some, -nox_ret, f_is_whole]
  by_cases h : a ≤ i <;> simp [h]
theorem asc_len : ∀ {s : List Nat} {c : Nat}, IsSet c s → s.length ≤ c := by
  intro s c h
  have sub : s.Nodup ∧ ∀ x ∈ s, x ∈ List.range c := ⟨h.1.imp fun h => Nat.ne_of_lt h, fun x hx => List.mem_range.mpr (h.2 x hx)⟩
  have := L2.nat_nodup_len s (List.range c) sub.1 sub.2
  rwa [List.length_range] at this
theorem nD_sub (i : Nat) : D.int (((i + 1 : Nat) : Int) - 1) = nD i := by
  show D.int _ = D.int _
  congr 1
  omega
theorem f_is_set (n c : Nat) (hc : c ≤ 100) (s : List Nat) (h : IsSet c s) : Γ (n + 3) "is_set" [eS s, .int c] = ret (.bl true) := by
  have hl := asc_len h
  rw [Γ, call_code t_is_set rfl]
  simp [c_is_set, d_is_set, evCs, evC, ev, evs, tst, tsto, evo, initE, permL, pickL, bindG, bindGs, after, bndR, ofR, noxR, -bnd_ret, -ofO_some, -nox_ret, ty_tupS, it_rng1 s.length (by omega)]
  rw [quM_true fun d hd => ?_]
  · simp [evCs, evC, ev, evs, tst, tsto, evo, initE, permL, pickL, bindG, bindGs, after, bndR, ofR, noxR, -bnd_ret, -ofO_some, -nox_ret, it_rng1 s.length (by omega)]
    rw [quM_true fun d hd => ?_]
    · simp [evCs, evC, ev, evs, tst, tsto, evo, initE, permL, pickL, bindG, bindGs, after, bndR, ofR, noxR, -bnd_ret, -ofO_some, -nox_ret]
    · obtain ⟨i, hi, rfl⟩ := List.mem_map.mp hd
      rw [List.mem_range] at hi
      have h1 : s[i]? = some s[i] := List.getElem?_eq_getElem (by omega)
      have h2 : s[i + 1]? = some s[i + 1] := List.getElem?_eq_getElem (by omega)
      have h3 : s[i] < s[i + 1] := List.pairwise_iff_getElem.mp h.1 i (i + 1) (by omega) (by omega) (by omega)
      have e : (nD ∘ fun x => x + 1) i = nD (i + 1) := rfl
      rw [e, b_sub, nD_sub]
      simp only [evCs, evC, ev, evs, tst, tsto, evo, initE, permL, pickL, bindG, bindGs, after, bndR, ofR, noxR, -bnd_ret, -ofO_some, -nox_ret, ix_S, h1, h2, Option.map_some, c_lt]
      rw [decide_eq_true
                                                                                                    (by omega)]
  · obtain ⟨x, hx, rfl⟩ := List.mem_map.mp hd
    have := h.2 x hx
    rw [show callF M.tab (n + 2) "is_number" [nD x, D.int 0, D.int (↑c - 1)] = _ from f_is_number n x 0 (c - 1)]
    rw [decide_eq_true (by omega), decide_eq_true (by omega)]
    rfl
theorem f_need_set (n c k : Nat) (hc : c ≤ 100) (s : List Nat) (h : IsSet c s) (hk : k ≤ s.length) : Γ (n + 4) "need_set" [eS s, .int c, .int k] = ret (eS s) := by
  rw [Γ, call_code t_need_set rfl]
  have : ¬ s.length < k := by omega
  simp [c_need_set, d_need_set, evCs, evC, ev, evs, tst, tsto, evo, initE, permL, pickL, bindG, bindGs, after, bndR, ofR, noxR, -bnd_ret, -ofO_some, -nox_ret, f_is_set n c hc s h, this]
theorem f_everything (n c : Nat) (hc : c ≤ 100) : Γ (n + 1) "everything" [.int c] = ret (eS (List.range c)) := by
  rw [Γ, call_code t_everything rfl]
  have : c ≤ sizeLine := Nat.le_trans hc (by decide)
  simp [c_everything, d_everything, evCs, evC, ev, evs, tst, tsto, evo, initE, permL, pickL, bindG, bindGs, after, bndR, ofR, noxR, -bnd_ret, -ofO_some, -nox_ret, it_rng0 c (by omega), this, eS]
theorem col_filter {f : D → Mp.M (Option D)} {p : Nat → Bool} {s : List Nat} (h : ∀ x ∈ s, f (nD x) = ret (if p x then some (nD x) else none)) : colM f (s.map nD) = ret ((s.filter p).map nD) := by
  rw [colM_map (g := fun x => if p x then some (nD x) else none) h]
  congr 1
  clear h
  induction s with
  | nil => rfl
  | cons a r ih =>
    rw [List.filterMap_cons, List.filter_cons]
    cases e : p a <;> simp [ih]
theorem small_len {s : List Nat} {c : Nat} (hc : c ≤ 100) (h : s.length ≤ c) : s.length ≤ sizeLine := Nat.le_trans h (Nat.le_trans hc (by decide))
theorem seq_l (xs : List D) : seqL (.lst xs) = some xs := rfl
theorem f_without (n : Nat) (a b : List Nat) (ha : a.length ≤ 100) : Γ (n + 1) "without" [eS a, eS b] = ret (eS (a.filter fun x => !b.contains x)) := by
  rw [Γ, call_code t_without rfl]
  have := small_len (Nat.le_refl 100) ha
  simp only [c_without, d_without, evCs, evC, ev, evs, tst, tsto, evo, initE, permL, pickL, bindG, bindGs, after, bndR, ofR, noxR, -bnd_ret, -ofO_some, -nox_ret, List.length_cons, List.length_nil]
  simp [evCs, evC, ev, evs, tst, tsto, evo, initE, permL, pickL, bindG, bindGs, after, bndR, ofR, noxR, -bnd_ret, -ofO_some, -nox_ret, this, -List.contains_eq_mem]
  rw [col_filter (p := fun x => !b.contains x) (s := a) fun x hx => ?_]
  · simp [evCs, evC, ev, evs, tst, tsto, evo, initE, permL, pickL, bindG, bindGs, after, bndR, ofR, noxR, -bnd_ret, -ofO_some, -nox_ret, this, eS, seq_l]
  · rw [c_ninS]
    cases b.contains x <;> simp [evCs, evC, ev, evs, tst, tsto, evo, initE, permL, pickL, bindG, bindGs, after, bndR, ofR, noxR, -bnd_ret, -ofO_some, -nox_ret]
theorem f_common (n : Nat) (a b : List Nat) (ha : a.length ≤ 100) : Γ (n + 1) "common" [eS a, eS b] = ret (eS (a.filter fun x => b.contains x)) := by
  rw [Γ, call_code t_common rfl]
  have := small_len (Nat.le_refl 100) ha
  simp [c_common, d_common, evCs, evC, ev, evs, tst, tsto, evo, initE, permL, pickL, bindG, bindGs, after, bndR, ofR, noxR, -bnd_ret, -ofO_some, -nox_ret, this, -List.contains_eq_mem]
  rw [col_filter (p := fun x => b.contains x) (s := a) fun x hx => ?_]
  · simp [evCs, evC, ev, evs, tst, tsto, evo, initE, permL, pickL, bindG, bindGs, after, bndR, ofR, noxR, -bnd_ret, -ofO_some, -nox_ret, this, eS, seq_l]
  · rw [c_inS]
    cases b.contains x <;> simp [evCs, evC, ev, evs, tst, tsto, evo, initE, permL, pickL, bindG, bindGs, after, bndR, ofR, noxR, -bnd_ret, -ofO_some, -nox_ret]
theorem f_within (n : Nat) (a b : List Nat) : Γ (n + 1) "within" [eS a, eS b] = ret (.bl (a.all fun x => b.contains x)) := by
  rw [Γ, call_code t_within rfl]
  simp [c_within, d_within, evCs, evC, ev, evs, tst, tsto, evo, initE, permL, pickL, bindG, bindGs, after, bndR, ofR, noxR, -bnd_ret, -ofO_some, -nox_ret, -List.contains_eq_mem]
  rw [quM_map (p := fun x => b.contains x) (xs := a) fun x hx => ?_]
  · simp [evCs, evC, ev, evs, tst, tsto, evo, initE, permL, pickL, bindG, bindGs, after, bndR, ofR, noxR, -bnd_ret, -ofO_some, -nox_ret]
  · rw [c_inS]
    simp [evCs, evC, ev, evs, tst, tsto, evo, initE, permL, pickL, bindG, bindGs, after, bndR, ofR, noxR, -bnd_ret, -ofO_some, -nox_ret]
theorem f_order_of (n : Nat) (a : List Nat) : Γ (n + 1) "order_of" [eS a] = ret (kS2 a) := by
  rw [Γ, call_code t_order_of rfl]
  simp [c_order_of, d_order_of, evCs, evC, ev, evs, tst, tsto, evo, initE, permL, pickL, bindG, bindGs, after, bndR, ofR, noxR, -bnd_ret, -ofO_some, -nox_ret, kS2, sizeLine]
theorem mapM_map {f : D → Mp.M D} {g : List Nat → D} : ∀ {xs : Fam}, (∀ x ∈ xs, f (eS x) = ret (g x)) → mapM' f (xs.map eS) = ret (xs.map g)
  | [], _ => rfl
  | x :: xs, k => by rw [List.map_cons, mapM', k x List.mem_cons_self, mapM_map fun y hy => k y (List.mem_cons_of_mem _ hy), bndR, bndR, List.map_cons]
theorem lst_l (xs : List D) : lstD (.lst xs) = some xs := rfl
theorem f_in_order (n : Nat) (xs : Fam) (ne : ∀ a ∈ xs, a ≠ []) (few : xs.length < 64) : Γ (n + 2) "in_order" [eL xs] = ret (eF (canon xs)) := by
  rw [Γ, call_code t_in_order rfl]
  obtain ⟨zs, e1, nd, hm⟩ := srts_S ne few
  have e1' : biD .srts [eL xs] = some (.lst (zs.map eS)) := e1
  simp [c_in_order, d_in_order, evCs, evC, ev, evs, tst, tsto, evo, initE, permL, pickL, bindG, bindGs, after, bndR, ofR, noxR, -bnd_ret, -ofO_some, -nox_ret, e1', lst_l]
  rw [mapM_map (g := kS2) fun x hx => f_order_of n x]
  have e2 := sortK_S nd
  rw [canon_same hm] at e2
  simp [evCs, evC, ev, evs, tst, tsto, evo, initE, permL, pickL, bindG, bindGs, after, bndR, ofR, noxR, -bnd_ret, -ofO_some, -nox_ret, srt_K, e2, seq_l, eF]
theorem c_in2 (a b c : Int) : cmpD .In (.int a) (.tup [.int b, .int c]) = some (decide (b = a) || decide (c = a)) := by
  have : shp (.tup [.int b, .int c]) = true := shp_low (low_seq (n := 0) (xs := [.int b, .int c]) fun d hd => by
    rcases List.mem_cons.mp hd with e | hd
    · rw [e]
      exact low_int _ _
    · rw [List.mem_singleton.mp hd]
      exact low_int _ _).1 (by decide)
  simp [cmpD, this]
def triv (c : Nat) (s : List Nat) : Bool := decide (s.length = 1) || decide (s.length = c - 1)
theorem f_is_trivial (n c : Nat) (hc : 1 ≤ c) (s : List Nat) : Γ (n + 1) "is_trivial" [eS s, .int c] = ret (.bl (triv c s)) := by
  rw [Γ, call_code t_is_trivial rfl]
  simp [c_is_trivial, d_is_trivial, evCs, evC, ev, evs, tst, tsto, evo, initE, permL, pickL, bindG, bindGs, after, bndR, ofR, noxR, -bnd_ret, -ofO_some, -nox_ret, c_in2, sizeLine, triv]
  congr 1
  by_cases h1 : s.length = 1
  · simp [h1]
  · have h1' : ¬ (1 : Int) = s.length := by omega
    by_cases h2 : s.length = c - 1
    · have h2' : (c : Int) - 1 = s.length := by omega
      simp [h1, h1', h2, h2']
    · have h2' : ¬ (c : Int) - 1 = s.length := by omega
      simp [h1, h1', h2, h2']
def sideOf (c : Nat) (s : List Nat) : List Nat := if s.contains 0 then (List.range c).filter fun x => !s.contains x else s
theorem f_side_of (n c : Nat) (hc : c ≤ 100) (s : List Nat) : Γ (n + 2) "side_of" [eS s, .int c] = ret (eS (sideOf c s)) := by
  rw [Γ, call_code t_side_of rfl]
  have h0 := c_inS 0 s
  simp only [Int.natCast_zero] at h0
  simp [c_side_of, d_side_of, evCs, evC, ev, evs, tst, tsto, evo, initE, permL, pickL, bindG, bindGs, after, bndR, ofR, noxR, -bnd_ret, -ofO_some, -nox_ret, h0, f_everything n c hc, sideOf, -List.contains_eq_mem]
  cases s.contains 0 with
  | true => simp [evCs, evC, ev, evs, tst, tsto, evo, initE, permL, pickL, bindG, bindGs, after, bndR, ofR, noxR, -bnd_ret, -ofO_some, -nox_ret, f_without n (List.range c) s (by simpa using hc), -List.contains_eq_mem]
  | false => simp [evCs, evC, ev, evs, tst, tsto, evo, initE, permL, pickL, bindG, bindGs, after, bndR, ofR, noxR, -bnd_ret, -ofO_some, -nox_ret]
def Fit (a b : List Nat) : Prop := (∀ x ∈ a, x ∉ b) ∨ (∀ x ∈ a, x ∈ b) ∨ ∀ x ∈ b, x ∈ a
def fitB (a b : List Nat) : Bool := decide ((a.filter fun x => b.contains x) = []) || (a.all (fun x => b.contains x) || b.all fun x => a.contains x)
theorem fit_iff {a b : List Nat} : fitB a b = true ↔ Fit a b := by
  unfold fitB Fit
  simp [List.filter_eq_nil_iff]
theorem f_do_fit (n : Nat) (a b : List Nat) (ha : a.length ≤ 100) : Γ (n + 2) "do_fit" [eS a, eS b] = ret (.bl (fitB a b)) := by
  rw [Γ, call_code t_do_fit rfl]
  have e0 : D.tup [] = eS [] := rfl
  have h0 := c_eqS (a.filter fun x => b.contains x) []
  unfold fitB
  simp only [c_do_fit, d_do_fit, evCs, evC, ev, evs, tst, tsto, evo, initE, permL, pickL, bindG, bindGs, after, bndR, ofR, noxR, -bnd_ret, -ofO_some, -nox_ret, f_common n a b ha, f_within, e0, h0, List.length_cons, List.length_nil, List.map_cons, List.map_nil, List.cons_append, List.nil_append, getE_zero, getE_succ, blD_bl]
  by_cases h1 : (a.filter fun x => b.contains x) = [] <;> cases h2 : a.all (fun x => b.contains x) <;> simp [evCs, evC, ev, evs, tst, tsto, evo, initE, permL, pickL, bindG, bindGs, after, bndR, ofR, noxR, -bnd_ret, -ofO_some, -nox_ret, f_common n a b ha, f_within, h0, h1, h2, bndR, -List.contains_eq_mem, -List.filter_eq_nil_iff, -List.all_eq_true, -List.all_eq_false]
end Lf
end
section
namespace Lf
open PySem Mp
theorem bG_nm (i : Nat) (d : D) (ρ : Mp.Env) : bindG (.nm i) d ρ = some (ρ.set i (some (d, false))) := by rw [bindG]
theorem bG_tp (i j : Nat) (d e : D) (ρ : Mp.Env) : bindG (.tp [.nm i, .nm j]) (.tup [d, e]) ρ = some ((ρ.set i (some (d, false))).set j (some (e, false))) := by simp [bindG, bindGs]
/-- an inner split, a cluster -/
structure InS (c : Nat) (s : List Nat) : Prop where
  set : IsSet c s
  ne : s ≠ []
  no0 : 0 ∉ s
  tr : triv c s = false
structure InC (c : Nat) (s : List Nat) : Prop where
  set : IsSet c s
  lo : 2 ≤ s.length
  hi : s.length < c
theorem f_is_split (n c : Nat) (hc : c ≤ 100) (s : List Nat) (h : InS c s) : Γ (n + 4) "is_split" [eS s, .int c] = ret (.bl true) := by
  rw [Γ, call_code t_is_split rfl]
  have e0 : D.tup [] = eS [] := rfl
  have h0 := c_ninS 0 s
  simp only [Int.natCast_zero] at h0
  have h1 : s.contains 0 = false := by simpa using h.no0
  simp [c_is_split, d_is_split, evCs, evC, ev, evs, tst, tsto, evo, initE, permL, pickL, bG_nm, bG_tp, after, bndR, ofR, noxR, -bnd_ret, -ofO_some, -nox_ret, f_is_set n c hc s h.set, h0, h1, e0, c_neS, h.ne, sizeLine, -List.contains_eq_mem]
theorem f_is_inner_split (n c : Nat) (hc : c ≤ 100) (h1 : 1 ≤ c) (s : List Nat) (h : InS c s) : Γ (n + 5) "is_inner_split" [eS s, .int c] = ret (.bl true) := by
  rw [Γ, call_code t_is_inner_split rfl]
  simp [c_is_inner_split, d_is_inner_split, evCs, evC, ev, evs, tst, tsto, evo, initE, permL, pickL, bG_nm, bG_tp, after, bndR, ofR, noxR, -bnd_ret, -ofO_some, -nox_ret, f_is_split n c hc s h, f_is_trivial (n + 3) c h1, h.tr]
theorem f_is_cluster (n c : Nat) (hc : c ≤ 100) (s : List Nat) (h : InC c s) : Γ (n + 4) "is_cluster" [eS s, .int c] = ret (.bl true) := by
  rw [Γ, call_code t_is_cluster rfl]
  have h1 := h.lo
  have h2 := h.hi
  have h3 : (2 : Int) ≤ s.length := by omega
  have h4 : (s.length : Int) < c := by omega
  simp [c_is_cluster, d_is_cluster, evCs, evC, ev, evs, tst, tsto, evo, initE, permL, pickL, bG_nm, bG_tp, after, bndR, ofR, noxR, -bnd_ret, -ofO_some, -nox_ret, f_is_set n c hc s h.set, h1, h2, h3, h4]
theorem f_lamC (n c : Nat) (hc : c ≤ 100) (s : List Nat) (h : InC c s) : Γ (n + 5) "lamC" [eS s, .int c] = ret (.bl true) := by
  rw [Γ, call_lam t_lamC]
  simp [evCs, evC, ev, evs, tst, tsto, evo, initE, permL, pickL, bG_nm, bG_tp, after, bndR, ofR, noxR, -bnd_ret, -ofO_some, -nox_ret, f_is_cluster n c hc s h]
theorem f_lamI (n c : Nat) (hc : c ≤ 100) (h1 : 1 ≤ c) (s : List Nat) (h : InS c s) : Γ (n + 6) "lamI" [eS s, .int c] = ret (.bl true) := by
  rw [Γ, call_lam t_lamI]
  simp [evCs, evC, ev, evs, tst, tsto, evo, initE, permL, pickL, bG_nm, bG_tp, after, bndR, ofR, noxR, -bnd_ret, -ofO_some, -nox_ret, f_is_inner_split n c hc h1 s h]
theorem loop_inv {I : Mp.Env → Prop} {f : D → Mp.Env → Mp.M Out} : ∀ {xs : List D}, (∀ x ∈ xs, ∀ ρ, I ρ → ∃ ρ', f x ρ = ret (.nx ρ') ∧ I ρ') → ∀ ρ, I ρ → ∃ ρ', loopC f xs ρ = ret (.nx ρ') ∧ I ρ'
  | [], _, ρ, h => ⟨ρ, rfl, h⟩
  | x :: xs, k, ρ, h => by
    obtain ⟨ρ1, e1, h1⟩ := k x List.mem_cons_self ρ h
    obtain ⟨ρ2, e2, h2⟩ := loop_inv (fun y hy => k y (List.mem_cons_of_mem _ hy)) ρ1 h1
    exact ⟨ρ2, by rw [loopC, e1, bndR]; exact e2, h2⟩
theorem enm_mem {α : Type} {g : α → D} : ∀ {xs : List α} {k : Nat} {d : D}, d ∈ enmL k (xs.map g) → ∃ i, ∃ h : i < xs.length, d = .tup [nD (k + i), g xs[i]]
  | [], _, _, h => by cases h
  | x :: xs, k, d, h => by
    rcases List.mem_cons.mp (show d ∈ D.tup [.int k, g x] :: enmL (k + 1) (xs.map g) from h) with e | z
    · exact ⟨0, by simp, by rw [e]; rfl⟩
    · obtain ⟨i, hi, e⟩ := enm_mem z
      refine ⟨i + 1, by simpa using hi, ?_⟩
      rw [e, show k + 1 + i = k + (i + 1) from by omega]
      rfl
def fwB : List C := [(.iff (.orr (.nt (.callv 1 [(.var 3)])) (.an (.cmp .Gt (.var 2) (.con (.int 0))) (.cmp .GtE (.call "order_of" [(.ix (.var 0) (.bin .Sub (.var 2) (.con (.int 1))))] []) (.call "order_of" [(.var 3)] [])))) [(.ret (.tup [(.var 2)]))] [])]
theorem ge_K {a b : List Nat} (h : LtS a b) : cmpD .GtE (kS2 a) (kS2 b) = some false := by
  have := (ltD_K a b).mpr h
  simp [cmpD, okO_K, shp_K, this]
theorem noC_nat : ∀ a : List Nat, noCs (a.map nD) = true
  | [] => rfl
  | x :: a => by simp [noCs, noC, noC_nat a]
theorem noC_S (a : List Nat) : noC (eS a) = true := by simp [eS, noC, noC_nat]
theorem f_first_wrong (k c : Nat) (lx : Str) (F : Fam) (up : Up F) (h : ∀ s ∈ F, Γ (k + 1) lx [eS s, .int c] = ret (.bl true)) : Γ (k + 2) "first_wrong" [eF F, .clo lx [.int c]] = ret .non := by
  rw [Γ, call_code t_first_wrong rfl]
  have z : mutDs [eF F] = false := by simp [mutDs]
  have step : ∀ x ∈ enmL 0 (F.map eS), ∀ ρ : Mp.Env, (∃ a b, ρ = [some (eF F, false), some (.clo lx [.int c], false), a, b]) →
      ∃ ρ', (fun d ρ => bnd (ofO (bindG (.tp [(.nm 2), (.nm 3)]) d ρ)) fun ρ' => evCs (callF M.tab (k + 1)) fwB ρ') x ρ = ret (.nx ρ') ∧ ∃ a b, ρ' = [some (eF F, false), some (.clo lx [.int c], false), a, b] := by
    rintro x hx ρ ⟨a, b, rfl⟩
    obtain ⟨i, hi, rfl⟩ := enm_mem hx
    have hs : F[i] ∈ F := List.getElem_mem hi
    refine ⟨[some (eF F, false), some (.clo lx [.int c], false), some (nD i, false), some (eS F[i], false)], ?_, _, _, rfl⟩
    have h' := h _ hs
    simp [evCs, evC, ev, evs, tst, tsto, evo, initE, permL, pickL, bG_nm, bG_tp, after, bndR, ofR, noxR, -bnd_ret, -ofO_some, -nox_ret, fwB, cloD, noCs, noC, noC_S, h', sizeLine]
    cases i with
    | zero => simp [evCs, evC, ev, evs, tst, tsto, evo, initE, permL, pickL, bG_nm, bG_tp, after, bndR, ofR, noxR, -bnd_ret, -ofO_some, -nox_ret]
    | succ j =>
      have e1 : F[j]? = some F[j] := List.getElem?_eq_getElem (by omega)
      have e2 : D.int (((j + 1 : Nat) : Int) - 1) = nD j := nD_sub j
      have lt : LtS F[j] F[j + 1] := List.pairwise_iff_getElem.mp up j (j + 1) (by omega) (by omega) (by omega)
      rw [e2]
      simp [evCs, evC, ev, evs, tst, tsto, evo, initE, permL, pickL, bG_nm, bG_tp, after, bndR, ofR, noxR, -bnd_ret, -ofO_some, -nox_ret, e1, f_order_of, ge_K lt]
  obtain ⟨ρ', h1, _⟩ := loop_inv step _ ⟨none, none, rfl⟩
  have e : c_first_wrong = [c_first_wrong.getD 0 .never, .for_ (.tp [(.nm 2), (.nm 3)]) .enm [(.var 0)] fwB, .ret (.con .non)] := rfl
  have h0 : evC (callF M.tab (k + 1)) (c_first_wrong.getD 0 .never) [some (eF F, false), some (.clo lx [.int c], false), none, none] = ret (.nx [some (eF F, false), some (.clo lx [.int c], false), none, none]) := by
    show evC (callF M.tab (k + 1)) (.iff (.nt (.isi (.var 0) "tuple")) [(.ret (.tup []))] []) _ = _
    simp [evCs, evC, ev, evs, tst, tsto, evo, initE, permL, pickL, bG_nm, bG_tp, after, bndR, ofR, noxR, -bnd_ret, -ofO_some, -nox_ret, ty_tupF]
  have h2 : evC (callF M.tab (k + 1)) (.for_ (.tp [(.nm 2), (.nm 3)]) .enm [(.var 0)] fwB) [some (eF F, false), some (.clo lx [.int c], false), none, none] = ret (.nx ρ') := by
    rw [evC]
    simp only [evs, ev, getE_zero, evCs, evC, ev, evs, tst, tsto, evo, initE, permL, pickL, bG_nm, bG_tp, after, bndR, ofR, noxR, -bnd_ret, -ofO_some, -nox_ret, it_enm, seq_F, Option.map_some, afters, z, if_false, Bool.false_eq_true]
    exact h1
  rw [e]
  show bnd (evCs _ _ [some (eF F, false), some (.clo lx [.int c], false), none, none]) outD = _
  rw [evCs, h0, bndR]
  dsimp only
  rw [evCs, h2, bndR]
  simp [evCs, evC, ev, evs, tst, tsto, evo, initE, permL, pickL, bG_nm, bG_tp, after, bndR, ofR, noxR, -bnd_ret, -ofO_some, -nox_ret]
theorem cut_take (xs : List D) (i : Nat) : cutD xs none (some (i : Int)) = xs.take i := by
  unfold cutD
  rw [HT.sIx_nat, HT.sIx_none, List.drop_zero, Nat.sub_zero]
  by_cases h : i ≤ xs.length
  · rw [Nat.min_eq_left h]
  · rw [Nat.min_eq_right (by omega), List.take_length, List.take_of_length_le (by omega)]
theorem sl_F (F : Fam) (i : Nat) : slD (eF F) none (some (i : Int)) = some (eF (F.take i)) := by
  show some (D.tup (cutD (F.map eS) none (some (i : Int)))) = _
  rw [cut_take, ← List.map_take]
  rfl
def wfB : List C := [(.iff (.nt (.aal true (.nm 6) .val [(.sl (.var 3) none (some (.var 4)))] (.call "do_fit" [(.var 6), (.var 5)] []))) [(.ret (.tup [(.var 4)]))] [])]
theorem eq_non : cmpD .Eq .non (.tup []) = some false := by kernel_rfl
theorem f_wrong_family (k c : Nat) (lx : Str) (F : Fam) (up : Up F) (fit : F.Pairwise Fit) (hl : ∀ s ∈ F, s.length ≤ 100) (h : ∀ s ∈ F, Γ (k + 1) lx [eS s, .int c] = ret (.bl true)) : Γ (k + 3) "wrong_family" [eF F, .clo lx [.int c]] = ret .non := by
  rw [Γ, call_code t_wrong_family rfl]
  have z : mutDs [eF F] = false := by simp [mutDs]
  have step : ∀ x ∈ enmL 0 (F.map eS), ∀ ρ : Mp.Env, (∃ a b d, ρ = [some (eF F, false), some (.clo lx [.int c], false), some (.non, false), some (eF F, false), a, b, d]) →
      ∃ ρ', (fun d ρ => bnd (ofO (bindG (.tp [(.nm 4), (.nm 5)]) d ρ)) fun ρ' => evCs (callF M.tab (k + 2)) wfB ρ') x ρ = ret (.nx ρ') ∧ ∃ a b d, ρ' = [some (eF F, false), some (.clo lx [.int c], false), some (.non, false), some (eF F, false), a, b, d] := by
    rintro x hx ρ ⟨a, b, d, rfl⟩
    obtain ⟨i, hi, rfl⟩ := enm_mem hx
    refine ⟨[some (eF F, false), some (.clo lx [.int c], false), some (.non, false), some (eF F, false), some (nD i, false), some (eS F[i], false), d], ?_, _, _, _, rfl⟩
    simp [evCs, evC, ev, evs, tst, tsto, evo, initE, permL, pickL, bG_nm, bG_tp, after, bndR, ofR, noxR, -bnd_ret, -ofO_some, -nox_ret, wfB, sl_F]
    rw [quM_true fun e he => ?_]
    · simp [evCs, evC, ev, evs, tst, tsto, evo, initE, permL, pickL, bG_nm, bG_tp, after, bndR, ofR, noxR, -bnd_ret, -ofO_some, -nox_ret]
    · rw [← List.map_take] at he
      obtain ⟨s, hs, rfl⟩ := List.mem_map.mp he
      obtain ⟨j, hj, rfl⟩ := List.getElem_of_mem hs
      have hj' : j < i ∧ j < F.length := by
        rw [List.length_take] at hj
        omega
      have es : (F.take i)[j] = F[j] := List.getElem_take
      rw [es]
      have ft : fitB F[j] F[i] = true := fit_iff.mpr (List.pairwise_iff_getElem.mp fit j i (by omega) (by omega) hj'.1)
      simp [evCs, evC, ev, evs, tst, tsto, evo, initE, permL, pickL, bG_nm, bG_tp, after, bndR, ofR, noxR, -bnd_ret, -ofO_some, -nox_ret, f_do_fit k F[j] F[i] (hl _ (List.getElem_mem _)), ft]
  obtain ⟨ρ', h1, a, b, d, h2⟩ := loop_inv step [some (eF F, false), some (.clo lx [.int c], false), some (.non, false), some (eF F, false), none, none, none] ⟨none, none, none, rfl⟩
  have e : c_wrong_family = [.asg (.nm 2) (.call "first_wrong" [(.var 0), (.var 1)] []), .iff (.cmp .Eq (.var 2) (.tup [])) [(.ret (.tup []))] [], .asg (.nm 3) (.ite (.cmp .Is (.var 2) (.con .non)) (.var 0) (.sl (.var 0) none (some (.ix (.var 2) (.con (.int 0)))))), .for_ (.tp [(.nm 4), (.nm 5)]) .enm [(.var 3)] wfB, .ret (.var 2)] := rfl
  have h3 : evC (callF M.tab (k + 2)) (.for_ (.tp [(.nm 4), (.nm 5)]) .enm [(.var 3)] wfB) [some (eF F, false), some (.clo lx [.int c], false), some (.non, false), some (eF F, false), none, none, none] = ret (.nx ρ') := by
    rw [evC]
    simp only [evs, ev, getE_zero, getE_succ, evCs, evC, ev, evs, tst, tsto, evo, initE, permL, pickL, bG_nm, bG_tp, after, bndR, ofR, noxR, -bnd_ret, -ofO_some, -nox_ret, it_enm, seq_F, Option.map_some, afters, z, if_false, Bool.false_eq_true]
    exact h1
  rw [e]
  show bnd (evCs _ _ [some (eF F, false), some (.clo lx [.int c], false), none, none, none, none, none]) outD = _
  have g := f_first_wrong k c lx F up h
  have is_ : cmpD .Is .non .non = some true := rfl
  have n0 : (0 : Nat) ≤ sizeLine := by decide
  have s1 : evC (callF M.tab (k + 2)) (.asg (.nm 2) (.call "first_wrong" [(.var 0), (.var 1)] [])) [some (eF F, false), some (.clo lx [.int c], false), none, none, none, none, none] = ret (.nx [some (eF F, false), some (.clo lx [.int c], false), some (.non, false), none, none, none, none]) := by
    simp [evCs, evC, ev, evs, tst, tsto, evo, initE, permL, pickL, bG_nm, bG_tp, after, bndR, ofR, noxR, -bnd_ret, -ofO_some, -nox_ret, g, isLst]
  have s2 : evC (callF M.tab (k + 2)) (.iff (.cmp .Eq (.var 2) (.tup [])) [(.ret (.tup []))] []) [some (eF F, false), some (.clo lx [.int c], false), some (.non, false), none, none, none, none] = ret (.nx [some (eF F, false), some (.clo lx [.int c], false), some (.non, false), none, none, none, none]) := by
    simp [evCs, evC, ev, evs, tst, tsto, evo, initE, permL, pickL, bG_nm, bG_tp, after, bndR, ofR, noxR, -bnd_ret, -ofO_some, -nox_ret, eq_non, n0]
  have s3 : evC (callF M.tab (k + 2)) (.asg (.nm 3) (.ite (.cmp .Is (.var 2) (.con .non)) (.var 0) (.sl (.var 0) none (some (.ix (.var 2) (.con (.int 0))))))) [some (eF F, false), some (.clo lx [.int c], false), some (.non, false), none, none, none, none] = ret (.nx [some (eF F, false), some (.clo lx [.int c], false), some (.non, false), some (eF F, false), none, none, none]) := by
    have il : isLst (eF F) = false := rfl
    simp [evCs, evC, ev, evs, tst, tsto, evo, initE, permL, pickL, bG_nm, bG_tp, after, bndR, ofR, noxR, -bnd_ret, -ofO_some, -nox_ret, is_, il]
  rw [evCs, s1, bndR]
  dsimp only
  rw [evCs, s2, bndR]
  dsimp only
  rw [evCs, s3, bndR]
  dsimp only
  rw [evCs, h3, bndR]
  dsimp only
  rw [h2]
  simp [evCs, evC, ev, evs, tst, tsto, evo, initE, permL, pickL, bG_nm, bG_tp, after, bndR, ofR, noxR, -bnd_ret, -ofO_some, -nox_ret]
/-- splits, clusters of c leaves -/
structure Spl (c : Nat) (F : Fam) : Prop where
  is : ∀ s ∈ F, InS c s
  up : Up F
  fit : F.Pairwise Fit
  few : F.length ≤ 30
structure Clu (c : Nat) (F : Fam) : Prop where
  is : ∀ s ∈ F, InC c s
  up : Up F
  fit : F.Pairwise Fit
  few : F.length ≤ 30
def eT (c : Nat) (F : Fam) : D := .tup [.int c, eF F]
theorem ix_T0 (c : Nat) (F : Fam) : ixD (eT c F) (.int 0) = some (.int c) := rfl
theorem ix_T1 (c : Nat) (F : Fam) : ixD (eT c F) (.int 1) = some (eF F) := rfl
theorem len_T (c : Nat) (F : Fam) : lenD (eT c F) = some (.int 2) := rfl
theorem ty_T (c : Nat) (F : Fam) : tyD (eT c F) "tuple" = some true := by kernel_rfl
theorem mut_T (c : Nat) (F : Fam) : mutD (eT c F) = false := by simp [eT, mutD, mutDs]
theorem f_wrong_tree (n c : Nat) (F : Fam) (h3 : 3 ≤ c) (h12 : c ≤ 12) (r : Bool) (h : if r then Clu c F else Spl c F) : Γ (n + 9) "wrong_tree" [eT c F, .bl r] = ret .non := by
  rw [Γ, call_code t_wrong_tree rfl]
  have num : callF M.tab (n + 8) "is_number" [.int c, .int 3, .int 12] = ret (.bl true) := by
    rw [show callF M.tab (n + 8) "is_number" [.int c, .int 3, .int 12] = _ from f_is_number (n + 6) c 3 12]
    rw [decide_eq_true (by omega), decide_eq_true (by omega)]
    rfl
  have ne2 : cmpD .NotEq (.int 2) (.int 2) = some false := by kernel_rfl
  have is_ : cmpD .Is .non .non = some true := rfl
  have fam : callF M.tab (n + 8) "wrong_family" [eF F, .clo (if r then "lamC" else "lamI") [.int c]] = ret .non := by
    cases r with
    | true => exact f_wrong_family (n + 5) c "lamC" F (Clu.up h) (Clu.fit h) (fun s hs => by have := (Clu.is h s hs).hi; omega) fun s hs => f_lamC (n + 1) c (by omega) s (Clu.is h s hs)
    | false => exact f_wrong_family (n + 5) c "lamI" F (Spl.up h) (Spl.fit h) (fun s hs => by have := asc_len (Spl.is h s hs).set; omega) fun s hs => f_lamI n c (by omega) (by omega) s (Spl.is h s hs)
  cases r <;> simp [c_wrong_tree, d_wrong_tree, evCs, evC, ev, evs, tst, tsto, evo, initE, permL, pickL, bG_nm, bG_tp, after, bndR, ofR, noxR, -bnd_ret, -ofO_some, -nox_ret, ty_T, len_T, ix_T0, ix_T1, mut_T, ne2, num, is_, isLst, noC, getEs] at fam ⊢ <;> simp [evCs, evC, ev, evs, tst, tsto, evo, initE, permL, pickL, bG_nm, bG_tp, after, bndR, ofR, noxR, -bnd_ret, -ofO_some, -nox_ret, fam, noC, is_, isLst]
theorem f_need_tree (n c : Nat) (F : Fam) (h3 : 3 ≤ c) (h12 : c ≤ 12) (h : Spl c F) : Γ (n + 10) "need_tree" [eT c F] = ret (eT c F) := by
  rw [Γ, call_code t_need_tree rfl]
  have is_ : cmpD .IsNot .non .non = some false := rfl
  simp [c_need_tree, d_need_tree, evCs, evC, ev, evs, tst, tsto, evo, initE, permL, pickL, bG_nm, bG_tp, after, bndR, ofR, noxR, -bnd_ret, -ofO_some, -nox_ret, f_wrong_tree n c F h3 h12 false h, mut_T, is_, isLst]
theorem f_need_rooted (n c : Nat) (F : Fam) (h3 : 3 ≤ c) (h12 : c ≤ 12) (h : Clu c F) : Γ (n + 10) "need_rooted" [eT c F] = ret (eT c F) := by
  rw [Γ, call_code t_need_rooted rfl]
  have is_ : cmpD .IsNot .non .non = some false := rfl
  simp [c_need_rooted, d_need_rooted, evCs, evC, ev, evs, tst, tsto, evo, initE, permL, pickL, bG_nm, bG_tp, after, bndR, ofR, noxR, -bnd_ret, -ofO_some, -nox_ret, f_wrong_tree n c F h3 h12 true h, mut_T, is_, isLst]
end Lf
end
section
namespace Lf
open PySem Mp
theorem colF {f : D → Mp.M (Option D)} {p : List Nat → Bool} {F : Fam} (h : ∀ s ∈ F, f (eS s) = ret (if p s then some (eS s) else none)) : colM f (F.map eS) = ret ((F.filter p).map eS) := by
  rw [colM_map (g := fun x => if p x then some (eS x) else none) h]
  congr 1
  clear h
  induction F with
  | nil => rfl
  | cons a r ih =>
    rw [List.filterMap_cons, List.filter_cons]
    cases e : p a <;> simp [ih]
theorem colG {f : D → Mp.M (Option D)} {g : List Nat → List Nat} {F : Fam} (h : ∀ s ∈ F, f (eS s) = ret (some (eS (g s)))) : colM f (F.map eS) = ret ((F.map g).map eS) := by
  rw [colM_map (g := fun x => some (eS (g x))) h, List.map_map]
  congr 1
  clear h
  induction F with
  | nil => rfl
  | cons a r ih =>
    rw [List.filterMap_cons]
    simp [ih]
theorem lst_L (F : Fam) : D.lst (F.map eS) = eL F := rfl
theorem sz_F {F : Fam} (h : F.length ≤ 60) : F.length ≤ sizeLine := Nat.le_trans h (by decide)
section
variable {G : Gam} {ρ : Mp.Env} {i : Nat} {t e c : T} {d : D}
theorem ev_lcG {F : Fam} {g : List Nat → List Nat} (ht : ev G ρ t = ret d) (hd : seqL d = some (F.map eS)) (few : F.length ≤ 60) (h : ∀ s ∈ F, ev G (ρ.set i (some (eS s, false))) e = ret (eS (g s))) : ev G ρ (.lc (.nm i) .val [t] none e) = ret (eL (F.map g)) := by
  have z := sz_F few
  rw [ev, evs, evs, ht, bndR, bndR, bndR, it_val, hd, ofR, bndR, colG (g := g) fun s hs => ?_, noxR, bndR, List.length_map, if_pos z]
  · rfl
  · rw [bG_nm, ofR, bndR, tsto, bndR, if_pos rfl, h s hs, bndR]
theorem ev_lcF {F : Fam} {p : List Nat → Bool} (hi : i < ρ.length) (ht : ev G ρ t = ret d) (hd : seqL d = some (F.map eS)) (few : F.length ≤ 60) (h : ∀ s ∈ F, tst G (ρ.set i (some (eS s, false))) c = ret (p s)) : ev G ρ (.lc (.nm i) .val [t] (some c) (.var i)) = ret (eL (F.filter p)) := by
  have z := sz_F few
  rw [ev, evs, evs, ht, bndR, bndR, bndR, it_val, hd, ofR, bndR, colF (p := p) fun s hs => ?_, noxR, bndR, List.length_map, if_pos z]
  · rfl
  · have g : getE (ρ.set i (some (eS s, false))) i = some (eS s) := by
      unfold getE
      rw [List.getElem?_set_self hi]
    rw [bG_nm, ofR, bndR, tsto, h s hs, bndR, ev, g, ofR, bndR]
    cases p s <;> rfl
theorem ev_lcN {s : List Nat} {p : Nat → Bool} (hi : i < ρ.length) (ht : ev G ρ t = ret d) (hd : seqL d = some (s.map nD)) (few : s.length ≤ 100) (h : ∀ x ∈ s, tst G (ρ.set i (some (nD x, false))) c = ret (p x)) : ev G ρ (.lc (.nm i) .val [t] (some c) (.var i)) = ret (eN (s.filter p)) := by
  have z := small_len (Nat.le_refl 100) few
  rw [ev, evs, evs, ht, bndR, bndR, bndR, it_val, hd, ofR, bndR, col_filter (p := p) fun x hx => ?_, noxR, bndR, List.length_map, if_pos z]
  · rfl
  · have g : getE (ρ.set i (some (nD x, false))) i = some (nD x) := by
      unfold getE
      rw [List.getElem?_set_self hi]
    rw [bG_nm, ofR, bndR, tsto, h x hx, bndR, ev, g, ofR, bndR]
    cases p x <;> rfl
theorem after_L (hf : fresh t = true) (F : Fam) : after t (eL F) ρ = ρ := by
  unfold after
  have : elImm (eL F) = true := by simp [eL, elImm, mut_map]
  simp [hf, this]
theorem after_N (hf : fresh t = true) (s : List Nat) : after t (eN s) ρ = ρ := by
  unfold after
  have : elImm (eN s) = true := by simp [eN, elImm, mut_nat]
  simp [hf, this]
theorem after_im (h : mutD d = false) : after t d ρ = ρ := by simp [after, h]
end
/-- of a rooted tree's clusters the splits -/
def us (c : Nat) (xs : Fam) : Fam := canon ((xs.map (sideOf c)).filter fun s => !triv c s)
theorem us_len (c : Nat) (xs : Fam) : ((xs.map (sideOf c)).filter fun s => !triv c s).length ≤ xs.length := by
  have := List.length_filter_le (fun s => !triv c s) (xs.map (sideOf c))
  rwa [List.length_map] at this
theorem f_inner_splits (n c : Nat) (hc : c ≤ 100) (h1 : 1 ≤ c) (xs : Fam) (d : D) (hd : seqL d = some (xs.map eS)) (few : xs.length ≤ 60) (ne : ∀ s ∈ (xs.map (sideOf c)).filter fun s => !triv c s, s ≠ []) : Γ (n + 3) "inner_splits" [d, .int c] = ret (eF (us c xs)) := by
  rw [Γ, call_code t_inner_splits rfl]
  have lf : ((xs.map (sideOf c)).filter fun s => !triv c s).length < 64 := Nat.lt_of_le_of_lt (us_len c xs) (by omega)
  show bnd (evCs (callF M.tab (n + 2)) [(.asg (.nm 2) (.lc (.nm 3) .val [(.var 0)] none (.call "side_of" [(.var 3), (.var 1)] []))), (.ret (.call "in_order" [(.lc (.nm 4) .val [(.var 2)] (some (.nt (.call "is_trivial" [(.var 4), (.var 1)] []))) (.var 4))] []))] [some (d, false), some (.int c, false), none, none, none]) outD = _
  rw [evCs, evC, ev_lcG (F := xs) (g := sideOf c) (d := d) rfl hd few fun s hs => by simp [evCs, evC, ev, evs, tst, tsto, evo, initE, permL, pickL, bG_nm, bG_tp, after, bndR, ofR, noxR, -bnd_ret, -ofO_some, -nox_ret, f_side_of n c hc], bndR, bndR, after_L rfl]
  dsimp only [List.set]
  rw [evCs, evC, ev, evs, evs, ev_lcF (F := xs.map (sideOf c)) (p := fun s => !triv c s) (d := eL (xs.map (sideOf c))) (by show 4 < 5; decide) rfl (seq_L _) (by simpa using few) fun s hs => by simp [evCs, evC, ev, evs, tst, tsto, evo, initE, permL, pickL, bG_nm, bG_tp, after, bndR, ofR, noxR, -bnd_ret, -ofO_some, -nox_ret, f_is_trivial (n + 1) c h1]]
  simp [evCs, evC, ev, evs, tst, tsto, evo, initE, permL, pickL, bG_nm, bG_tp, after, bndR, ofR, noxR, -bnd_ret, -ofO_some, -nox_ret, f_in_order n _ ne lf, us]
theorem f_unrooted_so (n c : Nat) (hc : c ≤ 100) (h1 : 1 ≤ c) (F : Fam) (few : F.length ≤ 60) (ne : ∀ s ∈ (F.map (sideOf c)).filter fun s => !triv c s, s ≠ []) : Γ (n + 4) "unrooted_so" [eT c F] = ret (eT c (us c F)) := by
  rw [Γ, call_code t_unrooted_so rfl]
  have m : mutD (D.tup [.int c, eF F]) = false := mut_T c F
  have two : (2 : Nat) ≤ sizeLine := by decide
  simp [c_unrooted_so, d_unrooted_so, evCs, evC, ev, evs, tst, tsto, evo, initE, permL, pickL, bG_nm, bG_tp, after, bndR, ofR, noxR, -bnd_ret, -ofO_some, -nox_ret, eT, m, f_inner_splits n c hc h1 F (eF F) (seq_F F) few ne, two]
theorem f_unrooted (n c : Nat) (F : Fam) (h3 : 3 ≤ c) (h12 : c ≤ 12) (h : Clu c F) (ne : ∀ s ∈ (F.map (sideOf c)).filter fun s => !triv c s, s ≠ []) : Γ (n + 11) "unrooted" [eT c F] = ret (eT c (us c F)) := by
  rw [Γ, call_code t_unrooted rfl]
  have := h.few
  simp [c_unrooted, d_unrooted, evCs, evC, ev, evs, tst, tsto, evo, initE, permL, pickL, bG_nm, bG_tp, after, bndR, ofR, noxR, -bnd_ret, -ofO_some, -nox_ret, f_need_rooted n c F h3 h12 h, f_unrooted_so (n + 6) c (by omega) (by omega) F (by omega) ne]
/-- numbers by their spots -/
def iK (x : Nat) : L2.Key := Sum.inl (x : Int)
def eD (g : List Nat) : D := .dic (g.map iK) ((List.range g.length).map nD)
theorem iK_inj {x y : Nat} (h : iK x = iK y) : x = y := by
  injection h with h
  omega
theorem has_iK (x : Nat) : ∀ g : List Nat, hasK (iK x) (g.map iK) = g.contains x
  | [] => rfl
  | y :: g => by
    rw [List.map_cons, hasK, has_iK x g, List.contains_cons]
    congr 1
    by_cases h : x = y
    · simp [h]
    · have h2 : ¬ iK y = iK x := fun z => h (iK_inj z).symm
      simp [h, h2]
theorem get_iK (x : Nat) : ∀ (g : List Nat) (k : Nat), x ∈ g → getK (iK x) (g.map iK) ((List.range' k g.length).map nD) = some (nD (k + g.idxOf x))
  | [], _, h => by cases h
  | y :: g, k, h => by
    rw [List.map_cons, List.length_cons, List.range'_succ, List.map_cons, getK]
    by_cases e : y = x
    · rw [e, if_pos rfl, List.idxOf_cons_self]
      rfl
    · have be : (y == x) = false := by simpa using e
      rw [if_neg fun z => e (iK_inj z), List.idxOf_cons, be, cond_false]
      rcases List.mem_cons.mp h
                                                                                                    with z | z
      · exact absurd z.symm e
      · rw [get_iK x g (k + 1) z]
        congr 2
        omega
theorem in_D (x : Nat) (g : List Nat) : cmpD .In (.int (x : Int)) (eD g) = some (g.contains x) := by
  show (keyD (.int (x : Int))).map (fun k => hasK k (g.map iK)) = _
  rw [show keyD (.int (x : Int)) = some (iK x) from rfl, Option.map_some, has_iK]
theorem ix_D (x : Nat) (g : List Nat) (h : x ∈ g) : ixD (eD g) (.int (x : Int)) = some (nD (g.idxOf x)) := by
  show (keyD (.int (x : Int))).bind (fun k => getK k (g.map iK) ((List.range g.length).map nD)) = _
  rw [show keyD (.int (x : Int)) = some (iK x) from rfl, Option.bind_some, List.range_eq_range', get_iK x g 0 h, Nat.zero_add]
def renum (g s : List Nat) : List Nat := (s.filter fun x => g.contains x).map fun x => g.idxOf x
theorem f_renumbered (n : Nat) (s g : List Nat) (hs : s.length ≤ 100) : Γ (n + 1) "renumbered" [eS s, eD g] = ret (eS (renum g s)) := by
  rw [Γ, call_code t_renumbered rfl]
  have z := small_len (Nat.le_refl 100) hs
  simp [c_renumbered, d_renumbered, evCs, evC, ev, evs, tst, tsto, evo, initE, permL, pickL, bG_nm, bG_tp, after, bndR, ofR, noxR, -bnd_ret, -ofO_some, -nox_ret, z, -List.contains_eq_mem]
  rw [colM_map (g := fun x => if g.contains x then some (nD (g.idxOf x)) else none) fun x hx => ?_]
  · have e : (s.filterMap fun x => if g.contains x then some (nD (g.idxOf x)) else none) = (renum g s).map nD := by
      unfold renum
      rw [List.map_map]
      clear hs z
      induction s with
      | nil => rfl
      | cons a r ih =>
        rw [List.filterMap_cons, List.filter_cons]
        cases g.contains a <;> simp [ih, -List.contains_eq_mem]
    rw [e]
    simp [evCs, evC, ev, evs, tst, tsto, evo, initE, permL, pickL, bG_nm, bG_tp, after, bndR, ofR, noxR, -bnd_ret, -ofO_some, -nox_ret, seq_l, eS]
  · rw [in_D]
    cases hc : g.contains x with
    | false => simp [evCs, evC, ev, evs, tst, tsto, evo, initE, permL, pickL, bG_nm, bG_tp, after, bndR, ofR, noxR, -bnd_ret, -ofO_some, -nox_ret]
    | true =>
      have hm : x ∈ g := by simpa using hc
      simp [evCs, evC, ev, evs, tst, tsto, evo, initE, permL, pickL, bG_nm, bG_tp, after, bndR, ofR, noxR, -bnd_ret, -ofO_some, -nox_ret, ix_D x g hm]
theorem putD_new {k : L2.Key} {v : D} : ∀ {ks : List L2.Key} {vs : List D}, hasK k ks = false → ks.length = vs.length → putD k v ks vs = vs ++ [v]
  | [], [], _, _ => rfl
  | [], _ :: _, _, h => by simp at h
  | _ :: _, [], _, h => by simp at h
  | a :: ks, w :: vs, h, hl => by
    rw [hasK, Bool.or_eq_false_iff, decide_eq_false_iff_not] at h
    rw [putD, if_neg h.1, putD_new h.2 (by simpa using hl)]
    rfl
theorem has_app {k : L2.Key} : ∀ (as bs : List L2.Key), hasK k (as ++ bs) = (hasK k as || hasK k bs)
  | [], _ => by simp [hasK]
  | a :: as, bs => by rw [List.cons_append, hasK, hasK, has_app as bs, Bool.or_assoc]
theorem dic_enm {f : D → Mp.M (D × D)} (hf : ∀ i x : Nat, f (.tup [nD i, nD x]) = ret (nD x, nD i)) : ∀ (g : List Nat) (k : Nat) (as : List Nat) (vs : List D), (as ++ g).Nodup → as.length = vs.length →
    dicM f (enmL k (g.map nD)) (as.map iK) vs = ret (.dic ((as ++ g).map iK) (vs ++ (List.range' k g.length).map nD))
  | [], k, as, vs, _, _ => by simp [enmL, dicM]
  | x :: g, k, as, vs, nd, hl => by
    rw [List.map_cons, enmL, dicM]
    rw [show f (.tup [.int k, nD x]) = ret (nD x, nD k) from hf k x, bndR, show keyD (nD x) = some (iK x) from rfl, ofR, bndR]
    have nx : hasK (iK x) (as.map iK) = false := by
      rw [has_iK]
      have := (List.nodup_append.mp nd).2.2
      simpa using fun h => this x h x List.mem_cons_self rfl
    rw [putD_new nx (by rw [List.length_map]; exact hl)]
    have e : addK (iK x) (as.map iK) = (as ++ [x]).map iK := by
      unfold addK
      rw [nx, if_neg (by decide), List.map_append]
      rfl
    rw [e, dic_enm hf g (k + 1) (as ++ [x]) _ (by rw [List.append_assoc]; exact nd) (by simp [hl])]
    rw [List.append_assoc, List.append_assoc, List.length_cons, List.range'_succ]
    rfl
theorem ev_dc {G : Gam} {a b c d : Option Slot} {s : List Nat} (nd : s.Nodup) (hs : s.length ≤ 100) {f g h : Option Slot} : ev G [a, some (eS s, false), b, c, d, f, g, h] (.dc (.tp [(.nm 3), (.nm 4)]) .enm [(.var 1)] (.var 4) (.var 3)) = ret (eD s) := by
  have z := small_len (Nat.le_refl 100) hs
  have len : ∀ (l : List Nat) (k : Nat), (enmL k (l.map nD)).length = l.length := by
    intro l
    induction l with
    | nil => intro k; rfl
    | cons a l ih => intro k; rw [List.map_cons, enmL, List.length_cons, ih, List.length_cons]
  simp [evCs, evC, ev, evs, tst, tsto, evo, initE, permL, pickL, bG_nm, bG_tp, after, bndR, ofR, noxR, -bnd_ret, -ofO_some, -nox_ret]
  rw [show ([] : List L2.Key) = ([] : List Nat).map iK from rfl, dic_enm (fun i x => by simp [evCs, evC, ev, evs, tst, tsto, evo, initE, permL, pickL, bG_nm, bG_tp, after, bndR, ofR, noxR, -bnd_ret, -ofO_some, -nox_ret]) s 0 [] [] (by simpa using nd) rfl]
  simp [evCs, evC, ev, evs, tst, tsto, evo, initE, permL, pickL, bG_nm, bG_tp, after, bndR, ofR, noxR, -bnd_ret, -ofO_some, -nox_ret, len, z, eD, List.range_eq_range']
/-- of a tree the splits of some leaves -/
def cuts (g : List Nat) (F : Fam) : Fam := F.map (renum g)
def rs (g : List Nat) (F : Fam) : Fam := us g.length ((cuts g F).filter fun s => decide (0 < s.length) && decide (s.length < g.length))
def rr (g : List Nat) (F : Fam) : Fam := canon ((cuts g F).filter fun s => decide (1 < s.length) && decide (s.length < g.length))
theorem cuts_len (g : List Nat) (F : Fam) (p : List Nat → Bool) : ((cuts g F).filter p).length ≤ F.length := by
  have := List.length_filter_le p (cuts g F)
  unfold cuts at this
  rwa [List.length_map] at this
theorem f_restricted_so (n c : Nat) (F : Fam) (g : List Nat) (hF : ∀ s ∈ F, s.length ≤ 100) (few : F.length ≤ 60) (nd : g.Nodup) (hg : g.length ≤ 100) (g3 : 1 ≤ g.length)
    (ne : ∀ s ∈ ((((cuts g F).filter fun s => decide (0 < s.length) && decide (s.length < g.length)).map (sideOf g.length)).filter fun s => !triv g.length s), s ≠ []) : Γ (n + 4) "restricted_so" [eT c F, eS g] = ret (eT g.length (rs g F)) := by
  rw [Γ, call_code t_restricted_so rfl]
  show bnd (evCs (callF M.tab (n + 3)) [(.asg (.nm 2) (.dc (.tp [(.nm 3), (.nm 4)]) .enm [(.var 1)] (.var 4) (.var 3))), (.asg (.nm 5) (.lc (.nm 6) .val [(.ix (.var 0) (.con (.int 1)))] none (.call "renumbered" [(.var 6), (.var 2)] []))), (.ret (.tup [(.bi .len [(.var 1)]), (.call "inner_splits" [(.lc (.nm 7) .val [(.var 5)] (some (.chn .Lt .Lt (.con (.int 0)) (.bi .len [(.var 7)]) (.bi .len [(.var 1)]))) (.var 7)), (.bi .len [(.var 1)])] [])]))] [some (eT c F, false), some (eS g, false), none, none, none, none, none, none]) outD = _
  have two : (2 : Nat) ≤ sizeLine := by decide
  have s1 : evC (callF M.tab (n + 3)) (.asg (.nm 2) (.dc (.tp [(.nm 3), (.nm 4)]) .enm [(.var 1)] (.var 4) (.var 3))) [some (eT c F, false), some (eS g, false), none, none, none, none, none, none] = ret (.nx [some (eT c F, false), some (eS g, false), some (eD g, false), none, none, none, none, none]) := by
    rw [evC, ev_dc nd hg, bndR]
    rfl
  rw [evCs, s1, bndR]
  dsimp only
  rw [evCs, evC, ev_lcG (F := F) (g := renum g) (d := eF F) (by simp [evCs, evC, ev, evs, tst, tsto, evo, initE, permL, pickL, bG_nm, bG_tp, after, bndR, ofR, noxR, -bnd_ret, -ofO_some, -nox_ret, ix_T1]) (seq_F F) few fun s hs => by simp [evCs, evC, ev, evs, tst, tsto, evo, initE, permL, pickL, bG_nm, bG_tp, after, bndR, ofR, noxR, -bnd_ret, -ofO_some, -nox_ret, f_renumbered (n + 2) s g (hF s hs)], bndR, bndR, after_L rfl]
  dsimp only [List.set]
  rw [evCs, evC, ev, evs, evs, ev, evs, evs, ev_lcF (F := cuts g F) (p := fun s => decide (0 < s.length) && decide (s.length < g.length)) (d := eL (cuts g F)) (by show 7 < 8; decide) rfl (seq_L _) (by unfold cuts; rw [List.length_map]; exact few) fun s hs => ?_]
  · have fi := f_inner_splits n g.length hg g3 ((cuts g F).filter fun s => decide (0 < s.length) && decide (s.length < g.length)) (eL _) (seq_L _) (Nat.le_trans (cuts_len g F _) few) ne
    simp [evCs, evC, ev, evs, tst, tsto, evo, initE, permL, pickL, bG_nm, bG_tp, after, bndR, ofR, noxR, -bnd_ret, -ofO_some, -nox_ret, fi, two, rs, eT, -List.filter_filter, -Bool.decide_and]
  · simp [evCs, evC, ev, evs, tst, tsto, evo, initE, permL, pickL, bG_nm, bG_tp, after, bndR, ofR, noxR, -bnd_ret, -ofO_some, -nox_ret]
    by_cases h : 0 < s.length <;> simp [h, evCs, evC, ev, evs, tst, tsto, evo, initE, permL, pickL, bG_nm, bG_tp, after, bndR, ofR, noxR, -bnd_ret, -ofO_some, -nox_ret]
theorem f_restricted_rooted_so (n c : Nat) (F : Fam) (g : List Nat) (hF : ∀ s ∈ F, s.length ≤ 100) (few : F.length ≤ 60) (nd : g.Nodup) (hg : g.length ≤ 100) : Γ (n + 3) "restricted_rooted_so" [eT c F, eS g] = ret (eT g.length (rr g F)) := by
  rw [Γ, call_code t_restricted_rooted_so rfl]
  show bnd (evCs (callF M.tab (n + 2)) [(.asg (.nm 2) (.dc (.tp [(.nm 3), (.nm 4)]) .enm [(.var 1)] (.var 4) (.var 3))), (.asg (.nm 5) (.lc (.nm 6) .val [(.ix (.var 0) (.con (.int 1)))] none (.call "renumbered" [(.var 6), (.var 2)] []))), (.ret (.tup [(.bi .len [(.var 1)]), (.call "in_order" [(.lc (.nm 7) .val [(.var 5)] (some (.chn .Lt .Lt (.con (.int 1)) (.bi .len [(.var 7)]) (.bi .len [(.var 1)]))) (.var 7))] [])]))] [some (eT c F, false), some (eS g, false), none, none, none, none, none, none]) outD = _
  have two : (2 : Nat) ≤ sizeLine := by decide
  have s1 : evC (callF M.tab (n + 2)) (.asg (.nm 2) (.dc (.tp [(.nm 3), (.nm 4)]) .enm [(.var 1)] (.var 4) (.var 3))) [some (eT c F, false), some (eS g, false), none, none, none, none, none, none] = ret (.nx [some (eT c F, false), some (eS g, false), some (eD g, false), none, none, none, none, none]) := by
    rw [evC, ev_dc nd hg, bndR]
    rfl
  rw [evCs, s1, bndR]
  dsimp only
  rw [evCs, evC, ev_lcG (F := F) (g := renum g) (d := eF F) (by simp [evCs, evC, ev, evs, tst, tsto, evo, initE, permL, pickL, bG_nm, bG_tp, after, bndR, ofR, noxR, -bnd_ret, -ofO_some, -nox_ret, ix_T1]) (seq_F F) few fun s hs => by simp [evCs, evC, ev, evs, tst, tsto, evo, initE, permL, pickL, bG_nm, bG_tp, after, bndR, ofR, noxR, -bnd_ret, -ofO_some, -nox_ret, f_renumbered (n + 1) s g (hF s hs)], bndR, bndR, after_L rfl]
  dsimp only [List.set]
  rw [evCs, evC, ev, evs, evs, ev, evs, evs, ev_lcF (F := cuts g F) (p := fun s => decide (1 < s.length) && decide (s.length < g.length)) (d := eL (cuts g F)) (by show 7 < 8; decide) rfl (seq_L _) (by unfold cuts; rw [List.length_map]; exact few) fun s hs => ?_]
  · have fi := f_in_order n ((cuts g F).filter fun s => decide (1 < s.length) && decide (s.length < g.length)) (fun a ha e => by
      have := (List.mem_filter.mp ha).2
      rw [e] at this
      simp at this) (by have := cuts_len g F fun s => decide (1 < s.length) && decide (s.length < g.length); omega)
    simp [evCs, evC, ev, evs, tst, tsto, evo, initE, permL, pickL, bG_nm, bG_tp, after, bndR, ofR, noxR, -bnd_ret, -ofO_some, -nox_ret, fi, two, rr, eT, -List.filter_filter, -Bool.decide_and]
  · have h1 : cmpD .Lt (.int 1) (.int s.length) = some (decide (1 < s.length)) := by
      rw [c_lt]
      congr 1
      by_cases h : 1 < s.length
      · have : (1 : Int) < s.length := by omega
        simp [h, this]
      · have : ¬ (1 : Int) < s.length := by omega
        simp [h, this]
    simp [evCs, evC, ev, evs, tst, tsto, evo, initE, permL, pickL, bG_nm, bG_tp, after, bndR, ofR, noxR, -bnd_ret, -ofO_some, -nox_ret, h1]
    by_cases h : 1 < s.length <;> simp [h, evCs, evC, ev, evs, tst, tsto, evo, initE, permL, pickL, bG_nm, bG_tp, after, bndR, ofR, noxR, -bnd_ret, -ofO_some, -nox_ret]
theorem f_restricted (n c : Nat) (F : Fam) (g : List Nat) (h3 : 3 ≤ c) (h12 : c ≤ 12) (h : Spl c F) (hg : IsSet c g) (g3 : 3 ≤ g.length)
    (ne : ∀ s ∈ ((((cuts g F).filter fun s => decide (0 < s.length) && decide (s.length < g.length)).map (sideOf g.length)).filter fun s => !triv g.length s), s ≠ []) : Γ (n + 11) "restricted" [eT c F, eS g] = ret (eT g.length (rs g F)) := by
  rw [Γ, call_code t_restricted rfl]
  have gl := asc_len hg
  have so := f_restricted_so (n + 6) c F g (fun s hs => by have := asc_len (h.is s hs).set; omega) (by have := h.few; omega) (hg.1.imp fun z => Nat.ne_of_lt z) (by omega) (by omega) ne
  have ns := f_need_set (n + 6) c 3 (by omega) g hg g3
  simp [c_restricted, d_restricted, evCs, evC, ev, evs, tst, tsto, evo, initE, permL, pickL, bG_nm, bG_tp, after, bndR, ofR, noxR, -bnd_ret, -ofO_some, -nox_ret, f_need_tree n c F h3 h12 h, ix_T0] at so ns ⊢
  simp [evCs, evC, ev, evs, tst, tsto, evo, initE, permL, pickL, bG_nm, bG_tp, after, bndR, ofR, noxR, -bnd_ret, -ofO_some, -nox_ret, so, ns]
theorem f_restricted_rooted (n c : Nat) (F : Fam) (g : List Nat) (h3 : 3 ≤ c) (h12 : c ≤ 12) (h : Clu c F) (hg : IsSet c g) (g3 : 3 ≤ g.length) : Γ (n + 11) "restricted_rooted" [eT c F, eS g] = ret (eT g.length (rr g F)) := by
  rw [Γ, call_code t_restricted_rooted rfl]
  have gl := asc_len hg
  have so := f_restricted_rooted_so (n + 7) c F g (fun s hs => by have := (h.is s hs).hi; omega) (by have := h.few; omega) (hg.1.imp fun z => Nat.ne_of_lt z) (by omega)
  have ns := f_need_set (n + 6) c 3 (by omega) g hg g3
  simp [c_restricted_rooted, d_restricted_rooted, evCs, evC, ev, evs, tst, tsto, evo, initE, permL, pickL, bG_nm, bG_tp, after, bndR, ofR, noxR, -bnd_ret, -ofO_some, -nox_ret, f_need_rooted n c F h3 h12 h, ix_T0] at so ns ⊢
  simp [evCs, evC, ev, evs, tst, tsto, evo, initE, permL, pickL, bG_nm, bG_tp, after, bndR, ofR, noxR, -bnd_ret, -ofO_some, -nox_ret, so, ns]
end Lf
end
section
/-! Mp: repr of numbers, tuples and lists of such. -/
namespace Mp
open PySem PySem.Spec
                                                                                                    PyProof.Rows L2

mutual
/-- small numbers, tuples and lists of such -/
def tiny : D → Bool
  | .int i => decide (0 ≤ i) && decide (i < 1000000)
  | .tup xs => tinys xs
  | .lst xs => tinys xs
  | .non => false
  | .bl _ => false
  | .str _ => false
  | .st => false
  | .gl _ => false
  | .dic _ _ => false
  | .clo _ _ => false
def tinys : List D → Bool
  | [] => true
  | x :: xs => tiny x && tinys xs
end
structure Tn (d : PyData) : Prop where
  sw : d.showable = true
  ls : d.leavesShort 8 = true
  ok : ∀ k, 0x110000 ≤ k → k ∉ d.shown.cps.toList
structure Tns (ds : List PyData) : Prop where
  sw : PyData.showableAll ds = true
  ls : PyData.leavesShortAll 8 ds = true
  ok : ∀ k, 0x110000 ≤ k → ∀ t ∈ PyData.shownAll ds, k ∉ t.cps.toList
theorem from_free {k : Nat} (hk : 0x110000 ≤ k) : ∀ (ts : List Str) (j : Nat) (acc : Str), k ∉ acc.cps.toList → (∀ t ∈ ts, k ∉ t.cps.toList) → k ∉ (textFrom j acc ts).cps.toList
  | [], _, _, h, _ => h
  | t :: ts, j, acc, h, hs => by
    rw [textFrom]
    refine from_free hk ts (j + 1) _ (fun z => ?_) fun u hu => hs u (List.mem_cons_of_mem _ hu)
    rcases mem_cps_append.mp z with z | z
    · rcases mem_cps_append.mp z with z | z
      · exact h z
      · split at z
        · rw [signs_sep] at z
          simp at z
          omega
        · have : k ∈ ([] : List Nat) := z
          cases this
    · exact hs t List.mem_cons_self z
theorem tn_int {i : Int} (h0 : 0 ≤ i) (h1 : i < 1000000) : Tn (.int i) := by
  have hn : i.natAbs < 10 ^ 6 := by omega
  refine ⟨?_, ?_, fun k hk => shown_int_free' ⟨by omega, .inr (by omega)⟩ i⟩
  · rw [PyData.showable, decide_eq_true_eq]
    by_cases z : i.natAbs = 0
    · rw [z]
      decide
    · have := (Nat.log2_lt z (k := 20)).mpr (by omega)
      omega
  · rw [PyData.leavesShort, decide_eq_true_eq]
    have e := int_text_length_le10 (a := i) (k := 6) (by decide) hn
    have e2 : (PyData.int i).shown.length = (toString i).length := by
      show ((toString i : String) : Str).cps.size = _
      rw [← Array.length_toList, signs_ofString, List.length_map]
      rfl
    omega
mutual
theorem tn_of : ∀ d : D, tiny d = true → Tn (py d)
  | .int i, h => by
    simp only [tiny, Bool.and_eq_true, decide_eq_true_eq] at h
    exact tn_int h.1 h.2
  | .tup xs, h => by
    have r := tns_of xs (by simpa only [tiny] using h)
    refine ⟨by rw [py, PyData.showable]; exact r.sw, by rw [py, PyData.leavesShort]; exact r.ls, fun k hk z => ?_⟩
    rw [py, PyData.shown, tupleText] at z
    rcases mem_cps_append.mp z with z | z
    · rcases mem_cps_append.mp z with z | z
      · rw [signs_lparen] at z
        simp at z
        omega
      · rcases (mem_join _ _ _).mp z with ⟨t, ht, z⟩ | ⟨_, z⟩
        · exact r.ok k hk t ht z
        · rw [signs_sep] at z
          simp at z
          omega
    · split at z
      · rw [show ((",)" : String) : Str).cps.toList = [44, 41] by decide] at z
        simp at z
        omega
      · rw [show ((")" : String) : Str).cps.toList = [41] by decide] at z
        simp at z
        omega
  | .lst xs, h => by
    have r := tns_of xs (by simpa only [tiny] using h)
    refine ⟨by rw [py, PyData.showable]; exact r.sw, by rw [py, PyData.leavesShort]; exact r.ls, fun k hk z => ?_⟩
    rw [py, PyData.shown, listText] at z
    rcases mem_cps_append.mp z with z | z
    · exact from_free hk _ 0 _ (by rw [signs_lbrack]; simp; omega) (r.ok k hk) z
    · rw [signs_rbrack] at z
      simp at z
      omega
  | .non, h => by simp [tiny] at h
  | .bl _, h => by simp [tiny] at h
  | .str _, h => by simp [tiny] at h
  | .st, h => by simp [tiny] at h
  | .gl _, h => by simp [tiny] at h
  | .dic _ _, h => by simp [tiny] at h
  | .clo _ _, h => by simp [tiny] at h
theorem tns_of : ∀ xs : List D, tinys xs = true → Tns (pys xs)
  | [], _ => ⟨rfl, rfl, fun k hk t ht => (by simp [pys, PyData.shownAll] at ht)⟩
  | x :: xs, h => by
    simp only [tinys, Bool.and_eq_true] at h
    have a := tn_of x h.1
    have r := tns_of xs h.2
    refine ⟨by rw [pys, PyData.showableAll, a.sw, r.sw]; rfl, by rw [pys, PyData.leavesShortAll, a.ls, r.ls]; rfl, fun k hk t ht => ?_⟩
    rw [pys, PyData.shownAll] at ht
    rcases List.mem_cons.mp ht with e | z
    · rw [e]
      exact a.ok k hk
    · exact r.ok k hk t z
end
theorem rep_ok {d : D} (h : tiny d = true) (hq : (seqL d).isSome = true) (hs : shp d = true) (hb : (py d).bulk ≤ 100000) : biD .rep [d] = some (.str (py d).shown) ∧ shp (.str (py d).shown) = true := by
  have t := tn_of d h
  have l := PyData.shown_le_bulk 8 (by decide) (py d) t.ls
  have sz : (py d).shown.length ≤ sizeLine := by
    rw [sizeLine_eq]
    omega
  refine ⟨?_, ?_⟩
  · show (if (seqL d).isSome && (py d).showable && shp d && decide ((py d).shown.length ≤ sizeLine) then some (D.str (py d).shown) else none) = _
    rw [hq, t.sw, hs, decide_eq_true sz]
    rfl
  · have : PyData.strOk (py d).shown = true := by
      unfold PyData.strOk
      rw [Array.all_eq_true_iff_forall_mem]
      intro c hc
      rw [decide_eq_true_eq]
      by_cases z : c < 0x110000
      · exact z
      · exact absurd (by simpa using hc) (t.ok c (by omega))
    simp [shp, SeqAt.shaped, py, PyData.canLay0, PyData.depth, this]
/-! ### of families -/
theorem tiny_nat : ∀ {s : List Nat}, (∀ x ∈ s, x < 1000) → tinys (s.map nD) = true
  | [], _ => rfl
  | x :: s, h => by
    have := h x List.mem_cons_self
    rw [List.map_cons, tinys, tiny_nat fun y hy => h y (List.mem_cons_of_mem _ hy), tiny]
    simp
    omega
theorem tiny_S {s : List Nat} (h : ∀ x ∈ s, x < 1000) : tiny (eS s) = true := by rw [eS, tiny]; exact tiny_nat h
theorem tinys_F : ∀ {F : Fam}, (∀ s ∈ F, ∀ x ∈ s, x < 1000) → tinys (F.map eS) = true
  | [], _ => rfl
  | s :: F, h => by rw [List.map_cons, tinys, tiny_S (h s List.mem_cons_self), tinys_F fun t ht => h t (List.mem_cons_of_mem _ ht)]; rfl
theorem bulk_nat : ∀ s : List Nat, PyData.bulkAll (pys (s.map nD)) = s.length
  | [] => rfl
  | x :: s => by
    rw [List.map_cons, pys, PyData.bulkAll, bulk_nat s, List.length_cons, py, PyData.bulk]
    omega
theorem bulk_S (s : List Nat) : (py (eS s)).bulk = s.length := by rw [eS, py, PyData.bulk, bulk_nat]
theorem bulk_Fs {F : Fam} (h : ∀ s ∈ F, s.length ≤ 100) : PyData.bulkAll (pys (F.map eS)) ≤ 101 * F.length := by
  induction F with
  | nil => simp [pys, PyData.bulkAll]
  | cons s F ih =>
    have h1 := h s List.mem_cons_self
    have h2 := ih fun t ht => h t (List.mem_cons_of_mem _ ht)
    rw [List.map_cons, pys, PyData.bulkAll, bulk_S, List.length_cons]
    omega
end Mp
end
section
namespace Lf
open PySem Mp
def sing (c : Nat) : Fam := (List.range c).map fun x => [x]
theorem ev_sing {G : Gam} {ρ : Mp.Env} {i c : Nat} {t : T} (hi : i < ρ.length) (hc : c ≤ 100) (ht : ev G ρ t = ret (.int c)) : ev G ρ (.lc (.nm i) .rng [t] none (.tup [.var i])) = ret (eL (sing c)) := by
  have z : c ≤ sizeLine := Nat.le_trans hc (by decide)
  have one : (1 : Nat) ≤ sizeLine := by decide
  rw [ev, evs, evs, ht, bndR, bndR, bndR, it_rng0 c (by omega), ofR, bndR, colM_map (g := fun x => some (eS [x])) fun x hx => ?_, noxR, bndR, List.length_map, List.length_range, if_pos z]
  · unfold eL sing
    rw [List.map_map]
    congr 2
    induction List.range c with
    | nil => rfl
    | cons a r ih =>
      rw [List.filterMap_cons]
      simp [ih]
  · have g : getE (ρ.set i (some (nD x, false))) i = some (nD x) := by
      unfold getE
      rw [List.getElem?_set_self hi]
    rw [bG_nm, ofR, bndR, tsto, bndR, if_pos rfl, ev, evs, evs, ev, g, ofR, bndR, bndR, bndR]
    simp [evCs, evC, ev, evs, tst, tsto, evo, initE, permL, pickL, bG_nm, bG_tp, after, bndR, ofR, noxR, -bnd_ret, -ofO_some, -nox_ret, one, eS]
def allC (c : Nat) (F : Fam) : Fam := canon (F ++ (sing c ++ [List.range c]))
theorem b_addL (F H : Fam) (h : F.length + H.length ≤ 200) : binD .Add (eL F) (eL H) = some (eL (F ++ H)) := by
  have z : F.length + H.length ≤ sizeLine := Nat.le_trans h (by decide)
  show (if (F.map eS).length + (H.map eS).length ≤ sizeLine then some (D.lst (F.map eS ++ H.map eS)) else none) = _
  rw [List.length_map, List.length_map, if_pos z, ← List.map_append]
  rfl
theorem f_all_clusters (n c : Nat) (F : Fam) (h1 : 1 ≤ c) (hc : c ≤ 12) (few : F.length ≤ 30) (ne : ∀ s ∈ F, s ≠ []) : Γ (n + 3) "all_clusters" [eT c F] = ret (eF (allC c F)) := by
  rw [Γ, call_code t_all_clusters rfl]
  show bnd (evCs (callF M.tab (n + 2)) [(.asg (.tp [(.nm 1), (.nm 2)]) (.var 0)), (.asg (.nm 3) (.bin .Add (.lc (.nm 4) .rng [(.var 1)] none (.tup [(.var 4)])) (.lst [(.call "everything" [(.var 1)] [])]))), (.ret (.call "in_order" [(.bin .Add (.bi .lst [(.var 2)]) (.var 3))] []))] [some (eT c F, false), none, none, none, none]) outD = _
  have ls : (sing c).length = c := by simp [sing]
  have s1 : evC (callF M.tab (n + 2)) (.asg (.tp [(.nm 1), (.nm 2)]) (.var 0)) [some (eT c F, false), none, none, none, none] = ret (.nx [some (eT c F, false), some (.int c, false), some (eF F, false), none, none]) := by
    have m := mut_T c F
    simp [evCs, evC, ev, evs, tst, tsto, evo, initE, permL, pickL, bG_nm, bG_tp, after, bndR, ofR, noxR, -bnd_ret, -ofO_some, -nox_ret, m]
    simp [eT, evCs, evC, ev, evs, tst, tsto, evo, initE, permL, pickL, bG_nm, bG_tp, after, bndR, ofR, noxR, -bnd_ret, -ofO_some, -nox_ret]
  have one : (1 : Nat) ≤ sizeLine := by decide
  have e2 : ev (callF M.tab (n + 2)) [some (eT c F, false), some (.int c, false), some (eF F, false), none, none] (.bin .Add (.lc (.nm 4) .rng [(.var 1)] none (.tup [(.var 4)])) (.lst [(.call "everything" [(.var 1)] [])])) = ret (eL (sing c ++ [List.range c])) := by
    rw [ev, ev_sing (c := c) (by show 4 < 5; decide) (by omega) rfl, bndR, ev]
    have fe := f_everything (n + 1) c (by omega)
    have l1 : D.lst [eS (List.range c)] = eL [List.range c] := rfl
    simp [evCs, evC, ev, evs, tst, tsto, evo, initE, permL, pickL, bG_nm, bG_tp, after, bndR, ofR, noxR, -bnd_ret, -ofO_some, -nox_ret, fe, one, l1, b_addL (sing c) [List.range c] (by rw [ls]; simp; omega)]
  rw [evCs, s1, bndR]
  dsimp only
  rw [evCs, evC, e2, bndR, bndR, after_L rfl]
  dsimp only [List.set]
  have l2 : D.lst (F.map eS) = eL F := rfl
  have fi := f_in_order n (F ++ (sing c ++ [List.range c])) (fun a ha => by
    rcases List.mem_append.mp ha with z | z
    · exact ne a z
    · rcases List.mem_append.mp z with z | z
      · obtain ⟨x, _, rfl⟩ := List.mem_map.mp z
        simp
      · rw
                                                                                                    [List.mem_singleton.mp z]
        intro e
        have := congrArg List.length e
        simp at this
        omega) (by simp [ls]; omega)
  simp [evCs, evC, ev, evs, tst, tsto, evo, initE, permL, pickL, bG_nm, bG_tp, after, bndR, ofR, noxR, -bnd_ret, -ofO_some, -nox_ret, l2, b_addL F (sing c ++ [List.range c]) (by simp [ls]; omega), fi, allC, -List.append_assoc]
theorem f_least_common (n c : Nat) (F : Fam) (g t : List Nat) (h3 : 3 ≤ c) (h12 : c ≤ 12) (h : Clu c F) (hg : IsSet c g) (g1 : 1 ≤ g.length) (ht : ((allC c F).filter fun s => g.all fun x => s.contains x)[0]? = some t) : Γ (n + 11) "least_common" [eT c F, eS g] = ret (eS t) := by
  rw [Γ, call_code t_least_common rfl]
  have ns := f_need_set (n + 6) c 1 (by omega) g hg g1
  have fa := f_all_clusters (n + 7) c F (by omega) h12 h.few fun s hs e => by
    have := (h.is s hs).lo
    rw [e] at this
    simp at this
  have la : (allC c F).length ≤ 60 := by
    have := len_canon (F ++ (sing c ++ [List.range c]))
    have := h.few
    unfold allC
    simp [sing] at *
    omega
  show bnd (evCs (callF M.tab (n + 10)) [(.exp (.call "need_rooted" [(.var 0)] [])), (.exp (.call "need_set" [(.var 1), (.ix (.var 0) (.con (.int 0))), (.con (.int 1))] [])), (.ret (.ix (.lc (.nm 2) .val [(.call "all_clusters" [(.var 0)] [])] (some (.call "within" [(.var 1), (.var 2)] [])) (.var 2)) (.con (.int 0))))] [some (eT c F, false), some (eS g, false), none]) outD = _
  have s1 : evC (callF M.tab (n + 10)) (.exp (.call "need_rooted" [(.var 0)] [])) [some (eT c F, false), some (eS g, false), none] = ret (.nx [some (eT c F, false), some (eS g, false), none]) := by
    simp [evCs, evC, ev, evs, tst, tsto, evo, initE, permL, pickL, bG_nm, bG_tp, after, bndR, ofR, noxR, -bnd_ret, -ofO_some, -nox_ret, f_need_rooted n c F h3 h12 h]
  have s2 : evC (callF M.tab (n + 10)) (.exp (.call "need_set" [(.var 1), (.ix (.var 0) (.con (.int 0))), (.con (.int 1))] [])) [some (eT c F, false), some (eS g, false), none] = ret (.nx [some (eT c F, false), some (eS g, false), none]) := by
    simp at ns
    simp [evCs, evC, ev, evs, tst, tsto, evo, initE, permL, pickL, bG_nm, bG_tp, after, bndR, ofR, noxR, -bnd_ret, -ofO_some, -nox_ret, ix_T0, ns]
  rw [evCs, s1, bndR]
  dsimp only
  rw [evCs, s2, bndR]
  dsimp only
  rw [evCs, evC, ev, ev_lcF (F := allC c F) (p := fun s => g.all fun x => s.contains x) (d := eF (allC c F)) (by show 2 < 3; decide) (by simp [evCs, evC, ev, evs, tst, tsto, evo, initE, permL, pickL, bG_nm, bG_tp, after, bndR, ofR, noxR, -bnd_ret, -ofO_some, -nox_ret]; exact fa) (seq_F _) la fun s hs => by simp [evCs, evC, ev, evs, tst, tsto, evo, initE, permL, pickL, bG_nm, bG_tp, after, bndR, ofR, noxR, -bnd_ret, -ofO_some, -nox_ret, f_within (n + 9) g s, -List.contains_eq_mem]]
  have e0 : ixD (eL ((allC c F).filter fun s => g.all fun x => s.contains x)) (.int 0) = some (eS t) := by
    show L2.atI (((allC c F).filter fun s => g.all fun x => s.contains x).map eS) ((0 : Nat) : Int) = _
    rw [atI_nat, List.getElem?_map, ht]
    rfl
  simp [evCs, evC, ev, evs, tst, tsto, evo, initE, permL, pickL, bG_nm, bG_tp, after, bndR, ofR, noxR, -bnd_ret, -ofO_some, -nox_ret, e0, -List.contains_eq_mem]
theorem f__law_like (n : Nat) (d : D) (h : tiny d = true) (hq : (seqL d).isSome = true) (hs : shp d = true) (hb : (py d).bulk ≤ 100000) : Γ (n + 1) "_law_like" [d, d] = ret (.bl true) := by
  rw [Γ, call_code t__law_like rfl]
  obtain ⟨r1, r2⟩ := rep_ok h hq hs hb
  have e : cmpD .Eq (.str (py d).shown) (.str (py d).shown) = some true := by
    have : eqv (.str (py d).shown) (.str (py d).shown) = true := by simp [eqv, py, PyData.eqv]
    simp [cmpD, eqD, r2, this]
  simp [c__law_like, d__law_like, evCs, evC, ev, evs, tst, tsto, evo, initE, permL, pickL, bG_nm, bG_tp, after, bndR, ofR, noxR, -bnd_ret, -ofO_some, -nox_ret, r1, e]
end Lf
end
section
namespace Lf
open PySem Mp
theorem f__law_in_order (n : Nat) (xs : Fam) (d : D) (hd : seqL d = some (xs.map eS)) (few : xs.length < 64) : Γ (n + 1) "_law_in_order" [d] = ret (eF (canon xs)) := by
  rw [Γ, call_code t__law_in_order rfl]
  have two : (2 : Nat) ≤ sizeLine := by decide
  have z1 : xs.length ≤ sizeLine := Nat.le_trans (Nat.le_of_lt few) (by decide)
  have z2 : (canon xs).length ≤ sizeLine := Nat.le_trans (len_canon xs) z1
  have e1 : biD .srts [.lst (xs.map kS2)] = some (.lst ((canon xs).map kS2)) := srts_K few
  show bnd (evCs (callF M.tab n) [(.ret (.bi .tup [(.lc (.nm 1) .val [(.bi .srts [(.lc (.nm 2) .val [(.var 0)] none (.tup [(.bi .len [(.var 2)]), (.var 2)]))])] none (.ix (.var 1) (.con (.int 1))))]))] [some (d, false), none, none]) outD = _
  have i1 : ev (callF M.tab n) [some (d, false), none, none] (.lc (.nm 2) .val [(.var 0)] none (.tup [(.bi .len [(.var 2)]), (.var 2)])) = ret (.lst (xs.map kS2)) := by
    rw [ev, evs, evs, ev, getE_zero, ofR, bndR, bndR, bndR, it_val, hd, ofR, bndR, colM_map (g := fun a => some (kS2 a)) fun x hx => by simp [evCs, evC, ev, evs, tst, tsto, evo, initE, permL, pickL, bG_nm, bG_tp, after, bndR, ofR, noxR, -bnd_ret, -ofO_some, -nox_ret, two, kS2], noxR, bndR, List.length_map, if_pos z1]
    congr 2
    clear few z1 z2 e1 hd
    induction xs with
    | nil => rfl
    | cons a r ih =>
      rw [List.filterMap_cons]
      simp [ih]
  have ixk : ∀ a, ixD (kS2 a) (.int 1) = some (eS a) := fun a => rfl
  have i2 : ev (callF M.tab n) [some (d, false), none, none] (.lc (.nm 1) .val [(.bi .srts [(.lc (.nm 2) .val [(.var 0)] none (.tup [(.bi .len [(.var 2)]), (.var 2)]))])] none (.ix (.var 1) (.con (.int 1)))) = ret (eL (canon xs)) := by
    rw [ev, evs, evs, ev, evs, evs, i1, bndR, bndR, bndR, e1, ofR, bndR, bndR, bndR, it_val, seq_l, ofR, bndR, colM_map (g := fun a => some (eS a)) fun x hx => by simp [evCs, evC, ev, evs, tst, tsto, evo, initE, permL, pickL, bG_nm, bG_tp, after, bndR, ofR, noxR, -bnd_ret, -ofO_some, -nox_ret, ixk], noxR, bndR, List.length_map, if_pos z2]
    unfold eL
    congr 2
    clear few z1 z2 e1 hd
    induction canon xs with
    | nil => rfl
    | cons a r ih =>
      rw [List.filterMap_cons]
      simp [ih]
  rw [evCs, evC, ev, evs, evs, i2]
  simp [evCs, evC, ev, evs, tst, tsto, evo, initE, permL, pickL, bG_nm, bG_tp, after, bndR, ofR, noxR, -bnd_ret, -ofO_some, -nox_ret, eF]
theorem f__law_rest (n c : Nat) (hc : c ≤ 100) (g : List Nat) : Γ (n + 1) "_law_rest" [.int c, eS g] = ret (eS ((List.range c).filter fun x => !g.contains x)) := by
  rw [Γ, call_code t__law_rest rfl]
  have z : c ≤ sizeLine := Nat.le_trans hc (by decide)
  simp [c__law_rest, d__law_rest, evCs, evC, ev, evs, tst, tsto, evo, initE, permL, pickL, bG_nm, bG_tp, after, bndR, ofR, noxR, -bnd_ret, -ofO_some, -nox_ret, it_rng0 c (by omega), z, -List.contains_eq_mem]
  rw [col_filter (p := fun x => !g.contains x) (s := List.range c) fun x hx => ?_]
  · simp [evCs, evC, ev, evs, tst, tsto, evo, initE, permL, pickL, bG_nm, bG_tp, after, bndR, ofR, noxR, -bnd_ret, -ofO_some, -nox_ret, eS, seq_l]
  · rw [c_ninS]
    cases g.contains x <;> simp [evCs, evC, ev, evs, tst, tsto, evo, initE, permL, pickL, bG_nm, bG_tp, after, bndR, ofR, noxR, -bnd_ret, -ofO_some, -nox_ret]
theorem f__law_side (n c : Nat) (hc : c ≤ 100) (g : List Nat) : Γ (n + 2) "_law_side" [.int c, eS g] = ret (eS (sideOf c g)) := by
  rw [Γ, call_code t__law_side rfl]
  have h0 := c_inS 0 g
  simp only [Int.natCast_zero] at h0
  simp [c__law_side, d__law_side, evCs, evC, ev, evs, tst, tsto, evo, initE, permL, pickL, bG_nm, bG_tp, after, bndR, ofR, noxR, -bnd_ret, -ofO_some, -nox_ret, h0, sideOf, -List.contains_eq_mem]
  cases g.contains 0 with
  | true => simp [evCs, evC, ev, evs, tst, tsto, evo, initE, permL, pickL, bG_nm, bG_tp, after, bndR, ofR, noxR, -bnd_ret, -ofO_some, -nox_ret, f__law_rest n c hc g, -List.contains_eq_mem]
  | false => simp [evCs, evC, ev, evs, tst, tsto, evo, initE, permL, pickL, bG_nm, bG_tp, after, bndR, ofR, noxR, -bnd_ret, -ofO_some, -nox_ret, eS]
/-- what is left of a side -/
def cut (g s : List Nat) : List Nat := (List.range g.length).filter fun i => s.contains (g.getD i 0)
theorem enm_range {α : Type} {h : α → D} (a0 : α) : ∀ (g : List α) (k : Nat), enmL k (g.map h) = (List.range g.length).map fun i => .tup [nD (k + i), h (g.getD i a0)]
  | [], _ => rfl
  | x :: g, k => by
    rw [List.map_cons, enmL, enm_range a0 g (k + 1), List.length_cons, List.range_succ_eq_map, List.map_cons, List.map_map]
    congr 1
    refine List.map_congr_left
                                                                                                    fun i _ => ?_
    show D.tup [nD (k + 1 + i), h (g.getD i a0)] = D.tup [nD (k + (i + 1)), h (g.getD i a0)]
    rw [show k + 1 + i = k + (i + 1) from by omega]
theorem loop_pre {α : Type} {I : List α → Mp.Env → Prop} {h : α → D} {f : D → Mp.Env → Mp.M Out} {xs : List α} (st : ∀ (pre : List α) (x : α) (post : List α), xs = pre ++ x :: post → ∀ ρ, I pre ρ → ∃ ρ', f (h x) ρ = ret (.nx ρ') ∧ I (pre ++ [x]) ρ') : ∀ ρ, I [] ρ → ∃ ρ', loopC f (xs.map h) ρ = ret (.nx ρ') ∧ I xs ρ' := by
  have key : ∀ (post pre : List α), xs = pre ++ post → ∀ ρ, I pre ρ → ∃ ρ', loopC f (post.map h) ρ = ret (.nx ρ') ∧ I xs ρ' := by
    intro post
    induction post with
    | nil =>
      intro pre e ρ hi
      rw [List.append_nil] at e
      exact ⟨ρ, rfl, e ▸ hi⟩
    | cons x post ih =>
      intro pre e ρ hi
      obtain ⟨ρ1, e1, k1⟩ := st pre x post e ρ hi
      obtain ⟨ρ2, e2, k2⟩ := ih (pre ++ [x]) (by rw [e, List.append_assoc]; rfl) ρ1 k1
      exact ⟨ρ2, by rw [List.map_cons, loopC, e1, bndR]; exact e2, k2⟩
  exact fun ρ hi => key xs [] rfl ρ hi
def prop (m : Nat) (s : List Nat) : Bool := decide (0 < s.length) && decide (s.length < m)
theorem own_L (ρ : Mp.Env) (i : Nat) (F : Fam) (h : ρ[i]? = some (some (eL F, true))) : ownL ρ i = some (F.map eS) := by
  unfold ownL
  rw [h]
  rfl
def ctB' : List C := [(.asg (.nm 5) (.bi .tup [(.lc (.tp [(.nm 6), (.nm 7)]) .enm [(.var 2)] (some (.cmp .In (.var 7) (.var 4))) (.var 6))])), (.iff (.chn .Lt .Lt (.con (.int 0)) (.bi .len [(.var 5)]) (.bi .len [(.var 2)])) [(.app 3 (.var 5))] [])]
theorem f__law_cut_to (n c : Nat) (F : Fam) (g : List Nat) (few : F.length ≤ 60) (hg : g.length ≤ 100) : Γ (n + 1) "_law_cut_to" [.int c, eF F, eS g] = ret (eL ((F.map (cut g)).filter (prop g.length))) := by
  rw [Γ, call_code t__law_cut_to rfl]
  have zg := small_len (Nat.le_refl 100) hg
  have z : mutDs [eF F] = false := by simp [mutDs]
  have kept : ∀ (s : List Nat) (a b c d e f : Option Slot), ev (callF M.tab n) [a, b, some (eS g, false), c, some (eS s, false), d, e, f] (.bi .tup [(.lc (.tp [(.nm 6), (.nm 7)]) .enm [(.var 2)] (some (.cmp .In (.var 7) (.var 4))) (.var 6))]) = ret (eS (cut g s)) := by
    intro s a b c d e f
    rw [ev, evs, evs, ev, evs, evs, ev]
    simp only [getE_zero, getE_succ, ofR, bndR, it_enm, seq_S, Option.map_some]
    rw [enm_range 0 g 0, colM_map (g := fun i => if s.contains (g.getD i 0) then some (nD i) else none) fun i hi => ?_, noxR, bndR, List.length_map, List.length_range, if_pos zg]
    · have e : ((List.range g.length).filterMap fun i => if s.contains (g.getD i 0) then some (nD i) else none) = (cut g s).map nD := by
        unfold cut
        induction List.range g.length with
        | nil => rfl
        | cons a r ih =>
          rw [List.filterMap_cons, List.filter_cons]
          cases s.contains (g.getD a 0) <;> simp [ih, -List.contains_eq_mem, -List.getD_eq_getElem?_getD]
      rw [e]
      simp [evCs, evC, ev, evs, tst, tsto, evo, initE, permL, pickL, bG_nm, bG_tp, after, bndR, ofR, noxR, -bnd_ret, -ofO_some, -nox_ret, eS, seq_l]
    · simp only [Nat.zero_add, evCs, evC, ev, evs, tst, tsto, evo, initE, permL, pickL, bG_nm, bG_tp, after, bndR, ofR, noxR, -bnd_ret, -ofO_some, -nox_ret, List.set, getE_zero, getE_succ, c_inS]
      cases s.contains (g.getD i 0) <;> simp [evCs, evC, ev, evs, tst, tsto, evo, initE, permL, pickL, bG_nm, bG_tp, after, bndR, ofR, noxR, -bnd_ret, -ofO_some, -nox_ret]
  have step : ∀ (pre : Fam) (s : List Nat) (post : Fam), F = pre ++ s :: post → ∀ ρ : Mp.Env, (∃ a b d e, ρ = [some (.int c, false), some (eF F, false), some (eS g, false), some (eL ((pre.map (cut g)).filter (prop g.length)), true), a, b, d, e]) →
      ∃ ρ', (fun d ρ => bnd (ofO (bindG (.nm 4) d ρ)) fun ρ' => evCs (callF M.tab n) ctB' ρ') (eS s) ρ = ret (.nx ρ') ∧ ∃ a b d e, ρ' = [some (.int c, false), some (eF F, false), some (eS g, false), some (eL (((pre ++ [s]).map (cut g)).filter (prop g.length)), true), a, b, d, e] := by
    rintro pre s post eF' ρ ⟨a, b, d, e, rfl⟩
    refine ⟨[some (.int c, false), some (eF F, false), some (eS g, false), some (eL (((pre ++ [s]).map (cut g)).filter (prop g.length)), true), some (eS s, false), some (eS (cut g s), false), d, e], ?_, _, _, _, _, rfl⟩
    have lp : ((pre.map (cut g)).filter (prop g.length)).length < sizeLine := by
      have h1 := List.length_filter_le (prop g.length) (pre.map (cut g))
      have h2 : pre.length ≤ 60 := by
        have := congrArg List.length eF'
        rw [List.length_append] at this
        omega
      rw [List.length_map] at h1
      exact Nat.lt_of_le_of_lt (Nat.le_trans h1 h2) (by decide)
    have ow : ∀ x y u v, ownL [some (D.int c, false), some (eF F, false), some (eS g, false), some (eL ((pre.map (cut g)).filter (prop g.length)), true), x, y, u, v] 3 = some (((pre.map (cut g)).filter (prop g.length)).map eS) := fun x y u v => own_L _ 3 _ rfl
    have il : ∀ x, isLst (eS x) = false := fun x => rfl
    show bnd (ofO (bindG (.nm 4) (eS s) _)) _ = _
    rw [bG_nm, ofR, bndR, ctB', evCs, evC]
    dsimp only [List.set]
    rw [kept, bndR, bndR, after_im (mut_S _), il]
    dsimp only [List.set]
    rw [List.map_append, List.filter_append]
    by_cases h1 : 0 < (cut g s).length
    · by_cases h2 : (cut g s).length < g.length
      · have hp : prop g.length (cut g s) = true := by simp [prop, h1, h2]
        have e0 : D.lst (((pre.map (cut g)).filter (prop g.length)).map eS ++ [eS (cut g s)]) = eL ((pre.map (cut g)).filter (prop g.length) ++ [cut g s]) := by simp [eL]
        simp [evCs, evC, ev, evs, tst, tsto, evo, initE, permL, pickL, bG_nm, bG_tp, after, bndR, ofR, noxR, -bnd_ret, -ofO_some, -nox_ret, h1, h2, ow, hp, lp, e0, -List.filter_map, -List.map_append]
      · have hp : prop g.length (cut g s) = false := by simp [prop, h2]
        simp [evCs, evC, ev, evs, tst, tsto, evo, initE, permL, pickL, bG_nm, bG_tp, after, bndR, ofR, noxR, -bnd_ret, -ofO_some, -nox_ret, h1, h2, hp]
    · have hp : prop g.length (cut g s) = false := by simp [prop, h1]
      simp [evCs, evC, ev, evs, tst, tsto, evo, initE, permL, pickL, bG_nm, bG_tp, after, bndR, ofR, noxR, -bnd_ret, -ofO_some, -nox_ret, h1, hp]
  obtain ⟨ρ', h1, a, b, d, e, h2⟩ := loop_pre (h := eS) (f := fun d ρ => bnd (ofO (bindG (.nm 4) d ρ)) fun ρ' => evCs (callF M.tab n) ctB' ρ') (xs := F) (I := fun (pre : Fam) (ρ : Mp.Env) => ∃ a b d e, ρ = [some (.int c, false), some (eF F, false), some (eS g, false), some (eL ((pre.map (cut g)).filter (prop g.length)), true), a, b, d, e]) step [some (.int c, false), some (eF F, false), some (eS g, false), some (eL [], true), none, none, none, none] ⟨none, none, none, none, rfl⟩
  have ec : c__law_cut_to = [.asg (.nm 3) (.lst []), .for_ (.nm 4) .val [(.var 1)] ctB', .ret (.var 3)] := rfl
  have s1 : evC (callF M.tab n) (.asg (.nm 3) (.lst [])) [some (.int c, false), some (eF F, false), some (eS g, false), none, none, none, none, none] = ret (.nx [some (.int c, false), some (eF F, false), some (eS g, false), some (eL [], true), none, none, none, none]) := by
    have e0 : D.lst [] = eL [] := rfl
    have n0 : (0 : Nat) ≤ sizeLine := by decide
    have il : isLst (eL []) = true := rfl
    rw [evC, ev, evs, bndR, List.length_nil, if_pos n0, bndR, e0, after_L rfl]
    rfl
  have h3 : evC (callF M.tab n) (.for_ (.nm 4) .val [(.var 1)] ctB') [some (.int c, false), some (eF F, false), some (eS g, false), some (eL [], true), none, none, none, none] = ret (.nx ρ') := by
    rw [evC]
    simp only [evs, ev, getE_zero, getE_succ, evCs, evC, ev, evs, tst, tsto, evo, initE, permL, pickL, bG_nm, bG_tp, after, bndR, ofR, noxR, -bnd_ret, -ofO_some, -nox_ret, it_val, seq_F, afters, z, if_false, Bool.false_eq_true]
    exact h1
  rw [ec]
  show bnd (evCs _ _ [some (.int c, false), some (eF F, false), some (eS g, false), none, none, none, none, none]) outD = _
  rw [evCs, s1, bndR]
  dsimp only
  rw [evCs, h3, bndR]
  dsimp only
  rw [h2]
  simp [evCs, evC, ev, evs, tst, tsto, evo, initE, permL, pickL, bG_nm, bG_tp, after, bndR, ofR, noxR, -bnd_ret, -ofO_some, -nox_ret]
theorem disown_pure {ρ : Mp.Env} {vs : List Nat} (h : ∀ (i : Nat) (d : D) (b : Bool), ρ[i]? = some (some (d, b)) → b = false) : disown vs ρ = ρ := by
  unfold disown
  apply List.ext_getElem?
  intro i
  rw [List.getElem?_mapIdx]
  cases e : ρ[i]? with
  | none => rfl
  | some o =>
    cases o with
    | none => rfl
    | some p =>
      obtain ⟨d, b⟩ := p
      have := h i d b e
      subst this
      rfl
/-- of some leaves the clusters, by the law; the splits -/
def alone (r : Bool) (g : List Nat) (F : Fam) : Fam :=
  if r then canon (((F.map (cut g)).filter (prop g.length)).filter fun s => decide (1 < s.length) && decide (s.length < g.length))
  else canon ((((F.map (cut g)).filter (prop g.length)).map (sideOf g.length)).filter fun s => decide (1 < s.length) && decide (s.length < g.length - 1))
theorem f__law_alone (n c : Nat) (F : Fam) (g : List Nat) (few : F.length ≤ 60) (hg : g.length ≤ 100) (g1 : 1 ≤ g.length) (r : Bool) : Γ (n + 3) "_law_alone" [eT c F, eS g, .bl r] = ret (eT g.length (alone r g F)) := by
  rw [Γ, call_code t__law_alone rfl]
  have two : (2 : Nat) ≤ sizeLine := by decide
  have fl : ((F.map (cut g)).filter (prop g.length)).length ≤ 60 := by
    have := List.length_filter_le (prop g.length) (F.map (cut g))
    rw [List.length_map] at this
    omega
  have ec : c__law_alone = [.asg (.tp [(.nm 3), (.nm 4)]) (.tup [(.ix (.var 0) (.con (.int 0))), (.bi .len [(.var 1)])]), .asg (.nm 5) (.call "_law_cut_to" [(.var 3), (.ix (.var 0) (.con (.int 1))), (.var 1)] []), .iff (.nt (.var 2)) [(.asg (.nm 5) (.lc (.nm 6) .val [(.var 5)] none (.call "_law_side" [(.var 4), (.var 6)] [])))] [],
    .ret (.tup [(.var 4), (.call "_law_in_order" [(.lc (.nm 6) .val [(.var 5)] (some (.chn .Lt .Lt (.con (.int 1)) (.bi .len [(.var 6)]) (.ite (.var 2) (.var 4) (.bin .Sub (.var 4) (.con (.int 1)))))) (.var 6))] [])])] := rfl
  rw [ec]
  show bnd (evCs (callF M.tab (n + 2)) _ [some (eT c F, false), some (eS g, false), some (.bl r, false), none, none, none, none]) outD = _
  have s1 : evC (callF M.tab (n + 2)) (.asg (.tp [(.nm 3), (.nm 4)]) (.tup [(.ix (.var 0) (.con (.int 0))), (.bi .len [(.var 1)])])) [some (eT c F, false), some (eS g, false), some (.bl r, false), none, none, none, none] = ret (.nx [some (eT c F, false), some (eS g, false), some (.bl r, false), some (.int c, false), some (.int g.length, false), none, none]) := by
    have m : mutD (.tup [.int c, .int g.length]) = false := rfl
    simp [evCs, evC, ev, evs, tst, tsto, evo, initE, permL, pickL, bG_nm, bG_tp, after, bndR, ofR, noxR, -bnd_ret, -ofO_some, -nox_ret, ix_T0, two, m]
  have s2 : evC (callF M.tab (n + 2)) (.asg (.nm 5) (.call "_law_cut_to" [(.var 3), (.ix (.var 0) (.con (.int 1))), (.var 1)] [])) [some (eT c F, false), some (eS g, false), some (.bl r, false), some (.int c, false), some (.int g.length, false), none, none] = ret (.nx [some (eT c F, false), some (eS g, false), some (.bl r, false), some (.int c, false), some (.int g.length, false), some (eL ((F.map (cut g)).filter (prop g.length)), false), none]) := by
    have e : ev (callF M.tab (n + 2)) [some (eT c F, false), some (eS g, false), some (.bl r, false), some (.int c, false), some (.int g.length, false), none, none] (.call "_law_cut_to" [(.var 3), (.ix (.var 0) (.con (.int 1))), (.var 1)] []) = ret (eL ((F.map (cut g)).filter (prop g.length))) := by
      have fc := f__law_cut_to (n + 1) c F g few hg
      simp [evCs, evC, ev, evs, tst, tsto, evo, initE, permL, pickL, bG_nm, bG_tp, after, bndR, ofR, noxR, -bnd_ret, -ofO_some, -nox_ret, ix_T1]
      exact fc
    rw [evC, e, bndR]
    rfl
  rw [evCs, s1, bndR]
  dsimp only
  rw [evCs, s2, bndR]
  dsimp only
  generalize hL : (F.map (cut g)).filter (prop g.length) = L at fl ⊢
  have tt : ∀ (s : List Nat) (x y z u : Option Slot), tst (callF M.tab (n + 2)) [x, y, some (.bl r, false), z, some (.int g.length, false), u, some (eS s, false)] (.chn .Lt .Lt (.con (.int 1)) (.bi .len [(.var 6)]) (.ite (.var 2) (.var 4) (.bin .Sub (.var 4) (.con (.int 1))))) = ret (decide (1 < s.length) && decide (s.length < if r then g.length else g.length - 1)) := by
    intro s x y z u
    have h1 : cmpD .Lt (.int 1) (.int s.length) = some (decide (1 < s.length)) := by
      rw [c_lt]
      congr 1
      by_cases h : 1 < s.length
      · have : (1 : Int) < s.length := by omega
        simp [h, this]
      · have : ¬ (1 : Int) < s.length := by omega
        simp [h, this]
    have h2 : cmpD .Lt (.int s.length) (.int ((g.length : Int) - 1)) = some (decide (s.length < g.length - 1)) := by
      rw [c_lt]
      congr 1
      by_cases h : s.length < g.length - 1
      · have : (s.length : Int) < (g.length : Int) - 1 := by omega
        simp [h, this]
      · have : ¬ (s.length : Int) < (g.length : Int) - 1 := by omega
        simp [h, this]
    by_cases k : 1 < s.length
    · cases r <;> simp [evCs, evC, ev, evs, tst, tsto, evo, initE, permL, pickL, bG_nm, bG_tp, after, bndR, ofR, noxR, -bnd_ret, -ofO_some, -nox_ret, h1, h2, k]
    · simp [evCs, evC, ev, evs, tst, tsto, evo, initE, permL, pickL, bG_nm, bG_tp, after, bndR, ofR, noxR, -bnd_ret, -ofO_some, -nox_ret, h1, k]
  have fin : ∀ (L : Fam), L.length ≤ 60 → ∀ b, bnd (evCs (callF M.tab (n + 2)) [.ret (.tup [(.var 4), (.call "_law_in_order" [(.lc (.nm 6) .val [(.var 5)] (some (.chn .Lt .Lt (.con (.int 1)) (.bi .len [(.var 6)]) (.ite (.var 2) (.var 4) (.bin .Sub (.var 4) (.con (.int 1)))))) (.var 6))] [])])] [some (eT c F, false), some (eS g, false), some (.bl r, false), some (.int c, false), some (.int g.length, false), some (eL L, b), none]) outD =
      ret (eT g.length (canon (L.filter fun s => decide (1 < s.length) && decide (s.length < if r then g.length else g.length - 1)))) := by
    intro L hL b
    have lf := List.length_filter_le (fun s => decide (1 < s.length) && decide (s.length < if r then g.length else g.length - 1)) L
    have el : ev (callF M.tab (n + 2)) [some (eT c F, false), some (eS g, false), some (.bl r, false), some (.int c, false), some (.int g.length, false), some (eL L, b), none] (.lc (.nm 6) .val [(.var 5)] (some (.chn .Lt .Lt (.con (.int 1)) (.bi .len [(.var 6)]) (.ite (.var 2) (.var 4) (.bin .Sub (.var 4) (.con (.int 1)))))) (.var 6)) = ret (eL (L.filter fun s => decide (1 < s.length) && decide (s.length < if r then g.length else g.length - 1))) :=
      ev_lcF (F := L) (p := fun s => decide (1 < s.length) && decide (s.length < if r then g.length else g.length - 1)) (d := eL L) (by show 6 < 7; decide) (by simp [evCs, evC, ev, evs, tst, tsto, evo, initE, permL, pickL, bG_nm, bG_tp, after, bndR, ofR, noxR, -bnd_ret, -ofO_some, -nox_ret]) (seq_L _) hL fun s hs => tt s _ _ _ _
    have fo := f__law_in_order (n + 1) (L.filter fun s => decide (1 < s.length) && decide (s.length < if r then g.length else g.length - 1)) (eL _) (seq_L _) (by omega)
    have fo' : callF M.tab (n + 2) "_law_in_order" [eL (L.filter fun s => decide (1 < s.length) && decide (s.length < if r then g.length else g.length - 1))] = _ := fo
    have ec : ev (callF M.tab (n + 2)) [some (eT c F, false), some (eS g, false), some (.bl r, false), some (.int c, false), some (.int g.length, false), some (eL L, b), none] (.call "_law_in_order" [(.lc (.nm 6) .val [(.var 5)] (some (.chn .Lt .Lt (.con (.int 1)) (.bi .len [(.var 6)]) (.ite (.var 2) (.var 4) (.bin .Sub (.var 4) (.con (.int 1)))))) (.var 6))] []) = ret (eF (canon (L.filter fun s => decide (1 < s.length) && decide (s.length < if r then g.length else g.length - 1)))) := by
      rw [ev, evs, evs, el, bndR, bndR, bndR, permL]
      exact fo'
    rw [evCs, evC, ev, evs, evs, ec]
    simp only [evCs, evC, ev, evs, tst, tsto, evo, initE, permL, pickL, bG_nm, bG_tp, after, bndR, ofR, noxR, -bnd_ret, -ofO_some, -nox_ret, getE_zero, getE_succ, two, if_true, eT, List.length_cons, List.length_nil]
    rfl
  cases r with
  | true =>
    have s3 : evC (callF M.tab (n + 2)) (.iff (.nt (.var 2)) [(.asg (.nm 5) (.lc (.nm 6) .val [(.var 5)] none (.call "_law_side" [(.var 4), (.var 6)] [])))] []) [some (eT c F, false), some (eS g, false), some (.bl true, false), some (.int c, false), some (.int g.length, false), some (eL L, false), none] = ret (.nx [some (eT c F, false), some (eS g, false), some (.bl true, false), some (.int c, false), some (.int g.length, false), some (eL L, false), none]) := by
      simp [evCs, evC, ev, evs, tst, tsto, evo, initE, permL, pickL, bG_nm, bG_tp, after, bndR, ofR, noxR, -bnd_ret, -ofO_some, -nox_ret]
    rw [evCs, s3, bndR]
    dsimp only
    rw [fin L fl]
    simp [alone, hL]
  | false =>
    have s3 : evC (callF M.tab (n + 2)) (.iff (.nt (.var 2)) [(.asg (.nm 5) (.lc (.nm 6) .val [(.var 5)] none (.call "_law_side" [(.var 4), (.var 6)] [])))] []) [some (eT c F, false), some (eS g, false), some (.bl false, false), some (.int c, false), some (.int g.length, false), some (eL L, false), none] = ret (.nx [some (eT c F, false), some (eS g, false), some (.bl false, false), some (.int c, false), some (.int g.length, false), some (eL (L.map (sideOf g.length)), true), none]) := by
      rw [evC, tst, tst, getE_succ, getE_succ, getE_zero, ofR, bndR, tr_bl, ofR, bndR, bndR, if_pos (by decide), evCs, evC, ev_lcG (F := L) (g := sideOf g.length) (d := eL L) (by simp [evCs, evC, ev, evs, tst, tsto, evo, initE, permL, pickL, bG_nm, bG_tp, after, bndR, ofR, noxR, -bnd_ret, -ofO_some, -nox_ret]) (seq_L _) fl fun s hs => by simp [evCs, evC, ev, evs, tst, tsto, evo, initE, permL, pickL, bG_nm, bG_tp, after, bndR, ofR, noxR, -bnd_ret, -ofO_some, -nox_ret, f__law_side n g.length hg], bndR, bndR, after_L rfl]
      rfl
    rw [evCs, s3, bndR]
    dsimp only
    rw [fin (L.map (sideOf g.length)) (by simpa using fl)]
    simp [alone, hL]
end Lf
end
section
namespace Lf
open PySem Mp
def lstB : List C := [(.iff (.cmp .Eq (.lc (.nm 3) .val [(.var 1)] (some (.cmp .NotIn (.var 3) (.var 2))) (.var 3)) (.lst [])) [(.ret (.var 2))] [])]
/-- the least cluster that has some leaves, by the law -/
def least (c : Nat) (F : Fam) (g : List Nat) : List Nat := ((canon (sing c ++ F)).find? fun s => g.all fun x => s.contains x).getD (List.range c)
theorem eq_N0 (s : List Nat) : cmpD .Eq (eN s) (.lst []) = some (decide (s = [])) := by
  have e0 : D.lst [] = eN [] := rfl
  have : eqv (eN s) (.lst []) = decide (s = []) := by
    cases s with
    | nil => simp [eN, eqv, py, PyData.eqv, pys, PyData.eqvAll]
    | cons a r => simp [eN, eqv, py, PyData.eqv, pys, PyData.eqvAll]
  have h1 : shp (.lst []) = true := by rw [e0]; exact shp_N []
  simp [cmpD, eqD, this, h1]
theorem f__law_least (n c : Nat) (hc : c ≤ 12) (F : Fam) (g : List Nat) (few : F.length ≤ 30) (hg : g.length ≤ 100) : Γ (n + 2) "_law_least" [eT c F, eS g] = ret (eS (least c F g)) := by
  rw [Γ, call_code t__law_least rfl]
  have zs : (sing c).length = c := by simp [sing]
  have lf : (canon (sing c ++ F)).length ≤ 60 := by
    have := len_canon (sing c ++ F)
    simp at this
    omega
  show bnd (evCs (callF M.tab (n + 1)) [.for_ (.nm 2) .val [(.call "_law_in_order" [(.bin .Add (.lc (.nm 3) .rng [(.ix (.var 0) (.con (.int 0)))] none (.tup [(.var 3)])) (.bi .lst [(.ix (.var 0) (.con (.int 1)))]))] [])] lstB, (.ret (.rgc true [(.ix (.var 0) (.con (.int 0)))]))] [some (eT c F, false), some (eS g, false), none, none]) outD = _
  have e1 : ev (callF M.tab (n + 1)) [some (eT c F, false), some (eS g, false), none, none] (.call "_law_in_order" [(.bin .Add (.lc (.nm 3) .rng [(.ix (.var 0) (.con (.int 0)))] none (.tup [(.var 3)])) (.bi .lst [(.ix (.var 0) (.con (.int 1)))]))] []) = ret (eF (canon (sing c ++ F))) := by
    have fo := f__law_in_order n (sing c ++ F) (eL (sing c ++ F)) (seq_L _) (by simp [zs]; omega)
    have l2 : D.lst (F.map eS) = eL F := rfl
    rw [ev, evs, evs, ev, ev_sing (c := c) (by show 3 < 4; decide) (by omega) (by simp [evCs, evC, ev, evs, tst, tsto, evo, initE, permL, pickL, bG_nm, bG_tp, after, bndR, ofR, noxR, -bnd_ret, -ofO_some, -nox_ret, ix_T0]), bndR]
    simp [evCs, evC, ev, evs, tst, tsto, evo, initE, permL, pickL, bG_nm, bG_tp, after, bndR, ofR, noxR, -bnd_ret, -ofO_some, -nox_ret, ix_T1, l2, b_addL (sing c) F (by rw [zs]; omega)]
    exact fo
  have b1 : ∀ (s : List Nat) (x y : Option Slot), evCs (callF M.tab (n + 1)) lstB [some (eT c F, false), some (eS g, false), some (eS s, false), y] = ret (if g.all fun x => s.contains x then .rt (eS s) else .nx [some (eT c F, false), some (eS g, false), some (eS s, false), y]) := by
    intro s x y
    have el : ev (callF M.tab (n + 1)) [some (eT c F, false), some (eS g, false), some (eS s, false), y] (.lc (.nm 3) .val [(.var 1)] (some (.cmp .NotIn (.var 3) (.var 2))) (.var 3)) = ret (eN (g.filter fun x => !s.contains x)) :=
      ev_lcN (s := g) (p := fun x => !s.contains x) (d := eS g) (by show 3 < 4; decide) (by simp [evCs, evC, ev, evs, tst, tsto, evo, initE, permL, pickL, bG_nm, bG_tp, after, bndR, ofR, noxR, -bnd_ret, -ofO_some, -nox_ret]) (seq_S _) hg fun x hx => by simp [evCs, evC, ev, evs, tst, tsto, evo, initE, permL, pickL, bG_nm, bG_tp, after, bndR, ofR, noxR, -bnd_ret, -ofO_some, -nox_ret, -List.contains_eq_mem]
    have n0 : (0 : Nat) ≤ sizeLine := by decide
    have ez : decide ((g.filter fun x => !s.contains x) = []) = g.all fun x => s.contains x := by
      rw [Bool.eq_iff_iff, decide_eq_true_iff, List.filter_eq_nil_iff, List.all_eq_true]
      simp
    rw [lstB, evCs, evC, tst, el, bndR, ev, evs, bndR, List.length_nil, if_pos n0, bndR, eq_N0, ez, ofR, bndR]
    cases g.all fun x => s.contains x <;> simp [evCs, evC, ev, evs, tst, tsto, evo, initE, permL, pickL, bG_nm, bG_tp, after, bndR, ofR, noxR, -bnd_ret, -ofO_some, -nox_ret]
  have lp : ∀ (G : Fam) (x y : Option Slot), ∃ x', loopC (fun d ρ => bnd (ofO (bindG (.nm 2) d ρ)) fun ρ' => evCs (callF M.tab (n + 1)) lstB ρ') (G.map eS) [some (eT c F, false), some (eS g, false), x, y] = ret ((G.find? fun s => g.all fun x => s.contains x).elim (Out.nx [some (eT c F, false), some (eS g, false), x', y]) fun s => .rt (eS s)) := by
    intro G
    induction G with
    | nil => exact fun x y => ⟨x, rfl⟩
    | cons s G ih =>
      intro x y
      rw [List.map_cons, loopC, bG_nm, ofR, bndR]
      dsimp only [List.set]
      rw [b1 s x y, bndR, List.find?_cons]
      cases h : g.all fun x => s.contains x with
      | true => exact ⟨x, by simp⟩
      | false =>
        obtain ⟨x', e⟩ := ih (some (eS s, false)) y
        exact ⟨x', by simpa using e⟩
  obtain ⟨x', e2⟩ := lp (canon (sing c ++ F)) none none
  have e3 : evC (callF M.tab (n + 1)) (.for_ (.nm 2) .val [(.call "_law_in_order" [(.bin .Add (.lc (.nm 3) .rng [(.ix (.var 0) (.con (.int 0)))] none (.tup [(.var 3)])) (.bi .lst [(.ix (.var 0) (.con (.int 1)))]))] [])] lstB) [some (eT c F, false), some (eS g, false), none, none] = ret (((canon (sing c ++ F)).find? fun s => g.all fun x => s.contains x).elim (Out.nx [some (eT c F, false), some (eS g, false), x', none]) fun s => .rt (eS s)) := by
    rw [evC, evs, evs, e1, bndR, bndR, bndR, it_val, seq_F, ofR, bndR, afters, show mutDs [eF (canon (sing c ++ F))] = false from by simp [mutDs], if_neg (by decide)]
    exact e2
  rw [evCs, e3, bndR]
  unfold least
  cases h : (canon (sing c ++ F)).find? fun s => g.all fun x => s.contains x with
  | some s => simp [evCs, evC, ev, evs, tst, tsto, evo, initE, permL, pickL, bG_nm, bG_tp, after, bndR, ofR, noxR, -bnd_ret, -ofO_some, -nox_ret]
  | none =>
    have z : c ≤ sizeLine := Nat.le_trans hc (by decide)
    simp [evCs, evC, ev, evs, tst, tsto, evo, initE, permL, pickL, bG_nm, bG_tp, after, bndR, ofR, noxR, -bnd_ret, -ofO_some, -nox_ret, ix_T0, it_rng0 c (by omega), z, eS]
end Lf
end
section
/-! Mp: what runs with the draws' state, whatever it is. -/
namespace Mp
open PySem PySem.Spec
                                                                                                    PyProof.Rows L2
variable {α β γ : Type}
def SOk (s : S) : Prop := s.cells ≠ [] ∧ s.lefts.length = s.cells.length ∧ 0 ≤ s.at_
/-- with at most b draws, to a value with P -/
def Runs (m : M α) (b : Nat) (P : α → Prop) : Prop := ∀ s, SOk s → s.at_ + b ≤ 1099511627776 → ∃ a s', m s = .ok a s' ∧ SOk s' ∧ s'.at_ ≤ s.at_ + b ∧ P a
theorem Runs.ret {a : α} {b : Nat} {P : α → Prop} (h : P a) : Runs (ret a) b P := fun s hs hb => ⟨a, s, rfl, hs, by omega, h⟩
theorem Runs.bnd {m : M α} {f : α → M β} {b c : Nat} {P : α → Prop} {Q : β → Prop} (h : Runs m b P) (k : ∀ a, P a → Runs (f a) c Q) : Runs (bnd m f) (b + c) Q := by
  intro s hs hb
  obtain ⟨a, s1, e1, o1, l1, p1⟩ := h s hs (by omega)
  obtain ⟨x, s2, e2, o2, l2, p2⟩ := k a p1 s1 o1 (by omega)
  refine ⟨x, s2, ?_, o2, by omega, p2⟩
  unfold Mp.bnd
  rw [e1]
  exact e2
theorem Runs.mono {m : M α} {b c : Nat} {P Q : α → Prop} (h : Runs m b P) (hb : b ≤ c) (hq : ∀ a, P a → Q a) : Runs m c Q := by
  intro s hs hc
  obtain ⟨a, s1, e1, o1, l1, p1⟩ := h s hs (by omega)
  exact ⟨a, s1, e1, o1, by omega, hq a p1⟩
theorem Runs.nox {m : M α} {b : Nat} {P : α → Prop} (h : Runs m b P) : Runs (nox m) b P := by
  intro s hs hc
  obtain ⟨a, s1, e1, o1, l1, p1⟩ := h s hs hc
  exact ⟨a, s1, by unfold Mp.nox; rw [e1], o1, l1, p1⟩
theorem Runs.bnd0 {m : M α} {f : α → M β} {b : Nat} {P : α → Prop} {Q : β → Prop} (h : Runs m b P) (k : ∀ a, P a → Runs (f a) 0 Q) : Runs (Mp.bnd m f) b Q := h.bnd k
/-- a loop by what holds behind each first part -/
theorem Runs.loop {h : α → D} {f : D → Env → M Out} {xs : List α} {I : List α → Env → Prop} {b : Nat}
    (step : ∀ (pre : List α) (x : α) (post : List α), xs = pre ++ x :: post → ∀ ρ, I pre ρ → Runs (f (h x) ρ) b fun o => ∃ ρ', o = .nx ρ' ∧ I (pre ++ [x]) ρ') :
    ∀ ρ, I [] ρ → Runs (loopC f (xs.map h) ρ) (xs.length * b) fun o => ∃ ρ', o = .nx ρ' ∧ I xs ρ' := by
  have key : ∀ (post pre : List α), xs = pre ++ post → ∀ ρ, I pre ρ → Runs (loopC f (post.map h) ρ) (post.length * b) fun o => ∃ ρ', o = .nx ρ' ∧ I xs ρ' := by
    intro post
    induction post with
    | nil =>
      intro pre e ρ hi
      rw [List.append_nil] at e
      exact Runs.ret ⟨ρ, rfl, e ▸ hi⟩
    | cons x post ih =>
      intro pre e ρ hi
      rw [List.map_cons, loopC, List.length_cons, Nat.succ_mul, Nat.add_comm]
      refine (step pre x post e ρ hi).bnd ?_
      rintro o ⟨ρ', rfl, k⟩
      exact ih (pre ++ [x]) (by rw [e, List.append_assoc]; rfl) ρ' k
  exact fun ρ hi => key xs [] rfl ρ hi
/-- some of what is walked -/
theorem Runs.col {h : α → D} {f : D → M (Option D)} {b : Nat} : ∀ {xs : List α}, (∀ x ∈ xs, Runs (f (h x)) b fun o => o = none ∨ o = some (h x)) →
    Runs (colM f (xs.map h)) (xs.length * b) fun r => ∃ l : List α, l.Sublist xs ∧ r = l.map h
  | [], _ => Runs.ret ⟨[], .slnil, rfl⟩
  | x :: xs, k => by
    rw [List.map_cons, colM, List.length_cons, Nat.succ_mul, Nat.add_comm]
    refine (k x List.mem_cons_self).bnd fun o ho => ?_
    refine Runs.bnd0 (Runs.col fun y hy => k y (List.mem_cons_of_mem _ hy)) ?_
    rintro r ⟨l, sl, rfl⟩
    rcases ho with rfl | rfl
    · exact Runs.ret ⟨l, sl.cons x, rfl⟩
    · exact Runs.ret ⟨x :: l, sl.cons₂ x, rfl⟩
/-- statements one by one -/
theorem Runs.cs {G : Gam} {c : C} {cs : List C} {ρ : Env} {b k : Nat} {P : Out → Prop} {I : Env → Prop} (h : Runs (evC G c ρ) b fun o => ∃ ρ', o = .nx ρ' ∧ I ρ') (t : ∀ ρ', I ρ' → Runs (evCs G cs ρ') k P) : Runs (evCs G (c :: cs) ρ) (b + k) P := by
  rw [evCs]
  refine h.bnd ?_
  rintro o ⟨ρ', rfl, i⟩
  exact t ρ' i
theorem cs_nx {G : Gam} {c : C} {cs : List C} {ρ ρ' : Env} (h : evC G c ρ = Mp.ret (.nx ρ')) : evCs G (c :: cs) ρ = evCs G cs ρ' := by
  rw [evCs, h, bndR]
theorem cs_at {G : Gam} {c : C} {cs : List C} {ρ ρ' : Env} {s s' : S} (h : evC G c ρ s = .ok (.nx ρ') s') : evCs G (c :: cs) ρ s = evCs G cs ρ' s' := by
  rw [evCs]
  unfold Mp.bnd
  rw [h]
theorem cs_rt {G : Gam} {c : C} {cs : List C} {ρ : Env} {s s' : S} {d : D} (h : evC G c ρ s = .ok (.rt d) s') : evCs G (c :: cs) ρ s = .ok (.rt d) s' := by
  rw [evCs]
  unfold Mp.bnd
  rw [h]
  rfl
theorem bnd_at {m : M α} {f : α → M β} {s s' : S} {a : α} (h : m s = .ok a s') : bnd m f s = f a s' := by
  unfold Mp.bnd
  rw [h]
theorem ret_at (a : α) (s : S) : ret a s = .ok a s := rfl
theorem Runs.of_eq {m m' : M α} {b : Nat} {P : α → Prop} (e : m = m') (h : Runs m' b P) : Runs m b P := e ▸ h
theorem Runs.rtl {G : Gam} {ρ : Env} {t : T} {b : Nat} {P : D → Prop} (h : Runs (ev G ρ t) b P) : Runs (evCs G [.ret t] ρ) b fun o => ∃ d, P d ∧ o = .rt d := by
  rw [evCs, evC]
  refine Runs.bnd0 (P := fun o => ∃ d, P d ∧ o = Out.rt d) (Runs.bnd0 h fun d hd => Runs.ret ⟨d, hd, rfl⟩) ?_
  rintro o ⟨d, hd, rfl⟩
  exact Runs.ret ⟨d, hd, rfl⟩
theorem Runs.out {m : M Out} {b : Nat} {P : D → Prop} (h : Runs m b fun o => ∃ d, P d ∧ o = .rt d) : Runs (Mp.bnd m outD) b P := by
  refine Runs.bnd0 h ?_
  rintro o ⟨d, hd, rfl⟩
  exact Runs.ret hd
theorem Runs.asg {G : Gam} {ρ : Env} {i : Nat} {t : T} {b : Nat} {P : D → Prop} (h : Runs (ev G ρ t) b P) : Runs (evC G (.asg (.nm i) t) ρ) b fun o => ∃ ρ', o = .nx ρ' ∧ ∃ d, P d ∧ ρ' = (after t d ρ).set i (some (d, fresh t && isLst d)) := by
  rw [evC]
  exact Runs.bnd0 h fun d hd => Runs.ret ⟨_, rfl, d, hd, rfl⟩
/-- a test, an expression, whose draws are one call's -/
theorem Runs.of {m : M α} {a : α} {b : Nat} {P : α → Prop} (e : m = Mp.ret a) (h : P a) : Runs m b P := e ▸ Runs.ret h
end Mp
end
section
namespace Lf
open PySem Mp
theorem b_mulL (a b : Int) (h : -18446744073709551616 < a ∧ a < 18446744073709551616) : binD .Mult (.int a) (.int b) = some (.int (a * b)) := if_pos (Or.inl h)
def mixI (c k : Int) : Int := ((c % 2147483647 * (48271 + 2 * k * k) + 69621 * k + 11) % 2147483647 * 69621) % 2147483629
theorem f__law_mixed (n : Nat) (c k : Int) (h0 : 0 ≤ k) (h1 : k < 4398046511104) : Γ (n + 1) "_law_mixed" [.int c, .int k] = ret (.int (mixI c k)) := by
  rw [Γ, call_code t__law_mixed rfl]
  show bnd (evCs (callF M.tab n) [(.asg (.nm 0) (.bin .Mod (.bi .int [(.var 0)]) (.con (.int 2147483647)))), (.ret (.bin .Mod (.bin .Mult (.bin .Mod (.bin .Add (.bin .Add (.bin .Mult (.var 0) (.bin .Add (.con (.int 48271)) (.bin .Mult (.bin .Mult (.con (.int 2)) (.var 1)) (.var 1)))) (.bin .Mult (.con (.int 69621)) (.var 1))) (.con (.int 11))) (.con (.int 2147483647))) (.con (.int 69621))) (.con (.int 2147483629))))] [some (.int c, false), some (.int k, false)]) outD = _
  have a1 := Int.emod_nonneg c (b := 2147483647) (by decide)
  have a2 := Int.emod_lt_of_pos c (b := 2147483647) (by decide)
  have b1 := Int.emod_nonneg (c % 2147483647 * (48271 + 2 * k * k) + 69621 * k + 11) (b := 2147483647) (by decide)
  have b2 := Int.emod_lt_of_pos (c % 2147483647 * (48271 + 2 * k * k) + 69621 * k + 11) (b := 2147483647) (by decide)
  have m1 : binD .Mult (.int (c % 2147483647)) (.int (48271 + 2 * k * k)) = some (.int (c % 2147483647 * (48271 + 2 * k * k))) := b_mulL _ _ (by omega)
  have m2 : binD .Mult (.int 2) (.int k) = some (.int (2 * k)) := b_mulL _ _ (by omega)
  have m3 : binD .Mult (.int (2 * k)) (.int k) = some (.int (2 * k * k)) := b_mulL _ _ (by omega)
  have m4 : binD .Mult (.int 69621) (.int k) = some (.int (69621 * k)) := b_mulL _ _ (by omega)
  have m5 : binD .Mult (.int ((c % 2147483647 * (48271 + 2 * k * k) + 69621 * k + 11) % 2147483647)) (.int 69621) = some (.int ((c % 2147483647 * (48271 + 2 * k * k) + 69621 * k + 11) % 2147483647 * 69621)) := b_mulL _ _ (by omega)
  simp [evCs, evC, ev, evs, tst, tsto, evo, initE, permL, pickL, bG_nm, bG_tp, after, bndR, ofR, noxR, -bnd_ret, -ofO_some, -nox_ret, m1, m2, m3, m4, m5, mixI]
theorem mix_lo (c k : Int) : 0 ≤ mixI c k ∧ mixI c k < 2147483629 := ⟨Int.emod_nonneg _ (by decide), Int.emod_lt_of_pos _ (by decide)⟩
theorem f__law_draw (n : Nat) (l : Nat) (h1 : 1 ≤ l) (h2 : l < 1073741824) : Runs (Γ (n + 2) "_law_draw" [.st, .int l]) 1 fun d => ∃ r : Nat, r < l ∧ d = nD r := by
  rw [Γ, call_code t__law_draw rfl]
  show Runs (bnd (evCs (callF M.tab (n + 1)) [(.asg (.nm 2) (.stA 0)), (.stAt 0 (.bin .Add (.var 2) (.con (.int 1)))), (.asg (.nm 3) (.bin .Mod (.bi .int [(.var 2)]) (.stN 0))), (.asg (.nm 4) (.stI false 0 (.var 3))), (.iff (.cmp .Gt (.var 4) (.con (.int 0))) [(.stL 0 (.var 3) (.bin .FloorDiv (.var 4) (.var 1))), (.ret (.bin .Mod (.bi .int [(.var 4)]) (.var 1)))] []), (.asg (.nm 5) (.call "_law_mixed" [(.call "_law_mixed" [(.stI true 0 (.var 3)), (.var 2)] []), (.bin .Add (.con (.int 40)) (.var 2))] [])), (.ret (.bin .Mod (.bin .FloorDiv (.bi .int [(.bin .Add (.bin .Mult (.var 5) (.con (.int 2147483647))) (.call "_law_mixed" [(.var 5), (.bin .Add (.con (.int 7)) (.var 2))] []))]) (.con (.int 64))) (.var 1)))] [some (.st, false), some (.int l, false), none, none, none, none]) outD) 1 _
  intro s hs hb
  obtain ⟨c0, ll, at0⟩ := hs
  have nc : 0 < s.cells.length := List.length_pos_iff.mpr c0
  have nc' : (0 : Int) < s.cells.length := by omega
  have g0 : ∀ r : Mp.Env, isSt (some (.st, false) :: r) 0 = some () := fun r => rfl
  have s1 : evC (callF M.tab (n + 1)) (.asg (.nm 2) (.stA 0)) [some (.st, false), some (.int l, false), none, none, none, none] s = .ok (.nx [some (.st, false), some (.int l, false), some (.int s.at_, false), none, none, none]) s := by
    rw [evC, ev, g0, ofR, bndR]
    rfl
  have s2 : evC (callF M.tab (n + 1)) (.stAt 0 (.bin .Add (.var 2) (.con (.int 1)))) [some (.st, false), some (.int l, false), some (.int s.at_, false), none, none, none] s = .ok (.nx [some (.st, false), some (.int l, false), some (.int s.at_, false), none, none, none]) { s with at_ := s.at_ + 1 } := by
    rw [evC]
    simp only [evCs, evC, ev, evs, tst, tsto, evo, initE, permL, pickL, bG_nm, bG_tp, after, bndR, ofR, noxR, -bnd_ret, -ofO_some, -nox_ret, getE_zero, getE_succ, b_add, g0, intD_int]
    have : (0 : Int) ≤ s.at_ + 1 := by omega
    unfold putS Mp.bnd
    simp only [this, if_true]
    rfl
  generalize hs' : ({ s with at_ := s.at_ + 1 } : S) = s' at s2
  have hc : s'.cells = s.cells := by rw [← hs']
  have hl : s'.lefts = s.lefts := by rw [← hs']
  have ha : s'.at_ = s.at_ + 1 := by rw [← hs']
  have ok' : SOk s' := ⟨by rw [hc]; exact c0, by rw [hc, hl]; exact ll, by omega⟩
  have p0 := Int.emod_nonneg s.at_ (b := (s.cells.length : Int)) (by omega)
  have p1 := Int.emod_lt_of_pos s.at_ nc'
  have s3 : evC (callF M.tab (n + 1)) (.asg (.nm 3) (.bin .Mod (.bi .int [(.var 2)]) (.stN 0))) [some (.st, false), some (.int l, false), some (.int s.at_, false), none, none, none] s' = .ok (.nx [some (.st, false), some (.int l, false), some (.int s.at_, false), some (.int (s.at_ % s.cells.length), false), none, none]) s' := by
    have e3 : ev (callF M.tab (n + 1)) [some (.st, false), some (.int l, false), some (.int s.at_, false), none, none, none] (.stN 0) s' = .ok (.int s.cells.length) s' := by
      rw [ev, g0, ofR, bndR, getS, hc]
    rw [evC, ev, ev]
    simp only [evs, ev, getE_zero, getE_succ, ofR, bndR, bi_int]
    rw [bnd_at (a := D.int (s.at_ % s.cells.length)) (s' := s')]
    · rfl
    · rw [ev] at e3
      rw [bnd_at e3, b_mod _ _ nc', ofR]
      rfl
  generalize s.at_ % (s.cells.length : Int) = p at p0 p1 s3
  obtain ⟨q, rfl⟩ := Int.eq_ofNat_of_zero_le p0
  have pl : q < s.cells.length := by omega
  have at1 : L2.atI s'.lefts q = some (s.lefts[q]'(by omega)) := by
    rw [hl, atI_nat]
    exact List.getElem?_eq_getElem (by omega)
  have at2 : L2.atI s'.cells q = some (s.cells[q]'pl) := by
    rw [hc, atI_nat]
    exact List.getElem?_eq_getElem pl
  generalize (s.lefts[q]'(by omega)) = v at at1
  generalize (s.cells[q]'pl) = w at at2
  have s4 : evC (callF M.tab (n + 1)) (.asg (.nm 4) (.stI false 0 (.var 3))) [some (.st, false), some (.int l, false), some (.int s.at_, false), some (.int q, false), none, none] s' = .ok (.nx [some (.st, false), some (.int l, false), some (.int s.at_, false), some (.int q, false), some (.int v, false), none]) s' := by
    have e4 : ev (callF M.tab (n + 1)) [some (.st, false), some (.int l, false), some (.int s.at_, false), some (.int q, false), none, none] (.stI false 0 (.var 3)) s' = .ok (.int v) s' := by
      rw [ev, ev]
      simp only [getE_zero, getE_succ, g0, ofR, bndR, intD_int, getS, if_false, Bool.false_eq_true, at1]
      rfl
    rw [evC, bnd_at e4]
    rfl
  have mod1 : ∀ x : Int, ∃ r : Nat, r < l ∧ D.int (x % l) = nD r := fun x => by
    have q0 := Int.emod_nonneg x (b := (l : Int)) (by omega)
    have q1 := Int.emod_lt_of_pos x (b := (l : Int)) (by omega)
    exact ⟨(x % l).toNat, by omega, by show D.int _ = D.int _; congr 1; omega⟩
  have l0 : (0 : Int) < l := by omega
  by_cases v0 : 0 < v
  · have s5 : evC (callF M.tab (n + 1)) (.iff (.cmp .Gt (.var 4) (.con (.int 0))) [(.stL 0 (.var 3) (.bin .FloorDiv (.var 4) (.var 1))), (.ret (.bin .Mod (.bi .int [(.var 4)]) (.var 1)))] []) [some (.st, false), some (.int l, false), some (.int s.at_, false), some (.int q, false), some (.int v, false), none] s' = .ok (.rt (.int (v % l))) { s' with lefts := s'.lefts.set (q : Int).toNat (v / l) } := by
      have hp : 0 ≤ (q : Int) ∧ (q : Int) < s'.lefts.length := by
        refine ⟨p0, ?_⟩
        rw [hl, ll]
        exact p1
      have l2 : (l : Int) < 1073741824 := by omega
      have u1 : evC (callF M.tab (n + 1)) (.stL 0 (.var 3) (.bin .FloorDiv (.var 4) (.var 1))) [some (.st, false), some (.int l, false), some (.int s.at_, false), some (.int q, false), some (.int v, false), none] s' = .ok (.nx [some (.st, false), some (.int l, false), some (.int s.at_, false), some (.int q, false), some (.int v, false), none]) { s' with lefts := s'.lefts.set (q : Int).toNat (v / l) } := by
        rw [evC]
        simp only [ev, getE_zero, getE_succ, ofR, bndR, b_div v l ⟨l0, l2⟩, g0, intD_int]
        unfold putS Mp.bnd
        simp only [hp, if_true, and_self]
        rfl
      have u2 : evC (callF M.tab (n + 1)) (.ret (.bin .Mod (.bi .int [(.var 4)]) (.var 1))) [some (.st, false), some (.int l, false), some (.int s.at_, false), some (.int q, false), some (.int v, false), none] = ret (.rt (.int (v % l))) := by
        rw [evC]
        simp only [evCs, evC, ev, evs, tst, tsto, evo, initE, permL, pickL, bG_nm, bG_tp, after, bndR, ofR, noxR, -bnd_ret, -ofO_some, -nox_ret, getE_zero, getE_succ, bi_int, b_mod v l l0]
      have u3 : tst (callF M.tab (n + 1)) [some (.st, false), some (.int l, false), some (.int s.at_, false), some (.int q, false), some (.int v, false), none] (.cmp .Gt (.var 4) (.con (.int 0))) = ret true := by
        simp only [evCs, evC, ev, evs, tst, tsto, evo, initE, permL, pickL, bG_nm, bG_tp, after, bndR, ofR, noxR, -bnd_ret, -ofO_some, -nox_ret, getE_zero, getE_succ, c_gt, decide_eq_true v0]
      rw [evC, u3, bndR, if_pos rfl, cs_at u1, evCs, u2, bndR]
      rfl
    obtain ⟨r, hr, er⟩ := mod1 v
    refine ⟨.int (v % l), { s' with lefts := s'.lefts.set (q : Int).toNat (v / l) }, ?_, ⟨ok'.1, ?_, ok'.2.2⟩, ?_, r, hr, er⟩
    · rw [bnd_at (a := Out.rt (.int (v % l))) (s' := { s' with lefts := s'.lefts.set (q : Int).toNat (v / l) })]
      · rw [outD_rt]
        rfl
      · rw [cs_at s1, cs_at s2, cs_at s3, cs_at s4, cs_rt s5]
    · rw [List.length_set]
      exact ok'.2.1
    · show s'.at_ ≤ _
      omega
  · have s5 : evC (callF M.tab (n + 1)) (.iff (.cmp .Gt (.var 4) (.con (.int 0))) [(.stL 0 (.var 3) (.bin .FloorDiv (.var 4) (.var 1))), (.ret (.bin .Mod (.bi .int [(.var 4)]) (.var 1)))] []) [some (.st, false), some (.int l, false), some (.int s.at_, false), some (.int q, false), some (.int v, false), none] = ret (.nx [some (.st, false), some (.int l, false), some (.int s.at_, false), some (.int q, false), some (.int v, false), none]) := by
      rw [evC]
      simp only [evCs, evC, ev, evs, tst, tsto, evo, initE, permL, pickL, bG_nm, bG_tp, after, bndR, ofR, noxR, -bnd_ret, -ofO_some, -nox_ret, getE_zero, getE_succ, c_gt, decide_eq_false v0, if_false, Bool.false_eq_true]
    have e6 : ev (callF M.tab (n + 1)) [some (.st, false), some (.int l, false), some (.int s.at_, false), some (.int q, false), some (.int v, false), none] (.stI true 0 (.var 3)) s' = .ok (.int w) s' := by
      rw [ev, ev]
      simp only [getE_zero, getE_succ, g0, ofR, bndR, intD_int, getS, if_true, at2]
      rfl
    have s6 : evC (callF M.tab (n + 1)) (.asg (.nm 5) (.call "_law_mixed" [(.call "_law_mixed" [(.stI true 0 (.var 3)), (.var 2)] []), (.bin .Add (.con (.int 40)) (.var 2))] [])) [some (.st, false), some (.int l, false), some (.int s.at_, false), some (.int q, false), some (.int v, false), none] s' = .ok (.nx [some (.st, false), some (.int l, false), some (.int s.at_, false), some (.int q, false), some (.int v, false), some (.int (mixI (mixI w s.at_) (40 + s.at_)), false)]) s' := by
      have f1 := f__law_mixed n w s.at_ at0 (by omega)
      have f2 := f__law_mixed n (mixI w s.at_) (40 + s.at_) (by omega) (by omega)
      unfold Γ at f1 f2
      rw [evC, ev, evs, ev, evs, bnd_at (a := D.int (mixI (mixI w s.at_) (40 + s.at_))) (s' := s')]
      · rfl
      · rw [bnd_at (a := [D.int (mixI w s.at_), D.int (40 + s.at_)]) (s' := s')]
        · simp only [evCs, evC, ev, evs, tst, tsto, evo, initE, permL, pickL, bG_nm, bG_tp, after, bndR, ofR, noxR, -bnd_ret, -ofO_some, -nox_ret, f2]
          rfl
        · rw [bnd_at (a := D.int (mixI w s.at_)) (s' := s')]
          · simp only [evCs, evC, ev, evs, tst, tsto, evo, initE, permL, pickL, bG_nm, bG_tp, after, bndR, ofR, noxR, -bnd_ret, -ofO_some, -nox_ret, getE_zero, getE_succ, b_add]
            rfl
          · rw [bnd_at (a := [D.int w, D.int s.at_]) (s' := s')]
            · simp only [evCs, evC, ev, evs, tst, tsto, evo, initE, permL, pickL, bG_nm, bG_tp, after, bndR, ofR, noxR, -bnd_ret, -ofO_some, -nox_ret, f1]
              rfl
            · rw [bnd_at e6]
              simp only [evCs, evC, ev, evs, tst, tsto, evo, initE, permL, pickL, bG_nm, bG_tp, after, bndR, ofR, noxR, -bnd_ret, -ofO_some, -nox_ret, getE_zero, getE_succ]
              rfl
    generalize hm : mixI (mixI w s.at_) (40 + s.at_) = z at s6
    have hz : 0 ≤ z ∧ z < 2147483629 := by
      rw [← hm]
      exact mix_lo _ _
    obtain ⟨r, hr, er⟩ := mod1 ((z * 2147483647 + mixI z (7 + s.at_)) / 64)
    have s7 : evC (callF M.tab (n + 1)) (.ret (.bin .Mod (.bin .FloorDiv (.bi .int [(.bin .Add (.bin .Mult (.var 5) (.con (.int 2147483647))) (.call "_law_mixed" [(.var 5), (.bin .Add (.con (.int 7)) (.var 2))] []))]) (.con (.int 64))) (.var 1))) [some (.st, false), some (.int l, false), some (.int s.at_, false), some (.int q, false), some (.int v, false), some (.int z, false)] = ret (.rt (nD r)) := by
      have f3 := f__law_mixed n z (7 + s.at_) (by omega) (by omega)
      unfold Γ at f3
      have m1 : binD .Mult (.int z) (.int 2147483647) = some (.int (z * 2147483647)) := b_mulL _ _ (by omega)
      rw [evC]
      simp only [evCs, evC, ev, evs, tst, tsto, evo, initE, permL, pickL, bG_nm, bG_tp, after, bndR, ofR, noxR, -bnd_ret, -ofO_some, -nox_ret, getE_zero, getE_succ, b_add, f3, m1, bi_int, b_div _ 64 ⟨by decide, by decide⟩, b_mod _ _ l0, er]
    refine ⟨nD r, s', ?_, ok', ?_, r, hr, rfl⟩
    · rw [bnd_at (a := Out.rt (nD r)) (s' := s')]
      · rw [outD_rt]
        rfl
      · rw [cs_at s1, cs_at s2, cs_at s3, cs_at s4, cs_nx s5, cs_at s6, evCs, s7, bndR]
        rfl
    · omega
end Lf
end
section
namespace Lf
open PySem Mp
/-- values that may be drawn from a list -/
structure Good {α : Type} [DecidableEq α] (h : α → D) : Prop where
  eq : ∀ a b, eqv (h a) (h b) = decide (a = b)
  s1 : ∀ a, shp (h a) = true
  sl : ∀ xs : List α, shp (.lst (xs.map h)) = true
  mu : ∀ a, mutD (h a) = false
  im : ∀ xs : List α, mutDs (xs.map h) = false
theorem good_N : Good nD := ⟨fun a b => by rw [eqv_int]; congr 1; exact propext ⟨fun h => by omega, fun h => by omega⟩, fun a => shp_int _, fun xs => shp_N xs, fun a => rfl, mut_nat⟩
theorem good_S : Good eS := ⟨eqv_S, shp_S, fun xs => shp_L xs, mut_S, mut_map⟩
section
variable {α : Type} [DecidableEq α] {h : α → D}
theorem ix_lst (xs : List D) (i : Nat) : ixD (.lst xs) (.int (i : Int)) = xs[i]? := by
  show L2.atI xs (i : Int) = _
  exact atI_nat xs i
theorem f__law_of (n : Nat) (xs : List α) (h1 : 1 ≤ xs.length) (h2 : xs.length < 1073741824) : Runs (Γ (n + 3) "_law_of" [.st, .lst (xs.map h)]) 1 fun d => ∃ x ∈ xs, d = h x := by
  rw [Γ, call_code t__law_of rfl]
  refine Runs.out (Runs.rtl ?_)
  have dr := f__law_draw n xs.length h1 h2
  have e : ev (callF M.tab (n + 2)) [some (.st, false), some (.lst (xs.map h), false)] (.ix (.var 1) (.call "_law_draw" [(.var 0), (.bi .len [(.var 1)])] [])) = bnd (Γ (n + 2) "_law_draw" [.st, .int xs.length]) fun y => ofO (ixD (.lst (xs.map h)) y) := by
    have l1 : lenD (.lst (xs.map h)) = some (.int xs.length) := by simp [lenD]
    rw [ev, ev]
    simp only [evs, ev, getE_zero, getE_succ, ofR, bndR, bi_len, l1, permL]
  refine Runs.of_eq e (dr.bnd0 ?_)
  rintro d ⟨r, hr, rfl⟩
  have : ixD (.lst (xs.map h)) (nD r) = some (h xs[r]) := by
    rw [ix_lst, List.getElem?_map, List.getElem?_eq_getElem hr]
    rfl
  rw [this, ofR]
  exact Runs.ret ⟨xs[r], List.getElem_mem hr, rfl⟩
theorem rem_of (g : Good h) (a : α) : ∀ {xs : List α}, a ∈ xs → remD (h a) (xs.map h) = some ((xs.erase a).map h)
  | [], k => by cases k
  | x :: xs, k => by
    rw [List.map_cons, remD, g.eq, List.erase_cons]
    by_cases e : x = a
    · simp [e]
    · have k' : a ∈ xs := (List.mem_cons.mp k).elim (fun z => absurd z.symm e) id
      simp [e, rem_of g a k']
def shB : List C := [(.asg (.nm 5) (.call "_law_of" [(.var 0), (.var 2)] [])), (.app 3 (.var 5)), (.rem 2 (.var 5))]
theorem own_l (ρ : Mp.Env) (i : Nat) (ds : List D) (h : ρ[i]? = some (some (.lst ds, true))) : ownL ρ i = some ds := by
  unfold ownL
  rw [h]
theorem f__law_shuffled (n : Nat) (g : Good h) (xs : List α) (hl : xs.length ≤ 100) (d : D) (hd : seqL d = some (xs.map h)) (hm : fresh (.bi .lst [.var 1]) = true) : Runs (Γ (n + 4) "_law_shuffled" [.st, d]) xs.length fun r => ∃ zs : List α, zs.Perm xs ∧ r = .lst (zs.map h) := by
  rw [Γ, call_code t__law_shuffled rfl]
  show Runs (bnd (evCs (callF M.tab (n + 3)) [(.par 2 3 (.bi .lst [(.var 1)]) (.lst [])), (.for_ (.nm 4) .rng [(.bi .len [(.var 2)])] shB), (.ret (.var 3))] [some (.st, false), some (d, false), none, none, none, none]) outD) xs.length _
  have n0 : (0 : Nat) ≤ sizeLine := by decide
  have s1 : evC (callF M.tab (n + 3)) (.par 2 3 (.bi .lst [(.var 1)]) (.lst [])) [some (.st, false), some (d, false), none, none, none, none] = ret (.nx [some (.st, false), some (d, false), some (.lst (xs.map h), true), some (.lst [], true), none, none]) := by
    have i1 : elImm (.lst (xs.map h)) = true := by simp [elImm, g.im]
    have a1 : ∀ ρ : Mp.Env, after (.bi .lst [.var 1]) (.lst (xs.map h)) ρ = ρ := fun ρ => by
      unfold after
      simp [hm, i1]
    have e1 : ev (callF M.tab (n + 3)) [some (.st, false), some (d, false), none, none, none, none] (.bi .lst [(.var 1)]) = ret (.lst (xs.map h)) := by
      rw [ev]
      simp only [evs, ev, getE_zero, getE_succ, ofR, bndR, bi_lst, hd, Option.map_some]
    rw [evC, e1, bndR, a1, ev, evs, bndR, List.length_nil, if_pos n0, bndR]
    rfl
  rw [cs_nx s1]
  let I : List Nat → Mp.Env → Prop := fun pre ρ => ∃ (left found : List α) (a b : Option Slot), ρ = [some (.st, false), some (d, false), some (.lst (left.map h), true), some (.lst (found.map h), true), a, b] ∧ (found ++ left).Perm xs ∧ found.length = pre.length
  have lp : Runs (loopC (fun d ρ => bnd (ofO (bindG (.nm 4) d ρ)) fun ρ' => evCs (callF M.tab (n + 3)) shB ρ') ((List.range xs.length).map nD) [some (.st, false), some (d, false), some (.lst (xs.map h), true), some (.lst [], true), none, none]) xs.length fun o => ∃ ρ', o = .nx ρ' ∧ I (List.range xs.length) ρ' := by
    have := Runs.loop (h := nD) (f := fun d ρ => bnd (ofO (bindG (.nm 4) d ρ)) fun ρ' => evCs (callF M.tab (n + 3)) shB ρ') (xs := List.range xs.length) (I := I) (b := 1) ?_ [some (.st, false), some (d, false), some (.lst (xs.map h), true), some (.lst [], true), none, none] ⟨xs, [], none, none, rfl, by simp, rfl⟩
    · simpa using this
    · rintro pre x post ep ρ ⟨left, found, a, b, rfl, pm, ln⟩
      have lx := congrArg List.length ep
      rw [List.length_range, List.length_append, List.length_cons] at lx
      have lp := pm.length_eq
      rw [List.length_append] at lp
      show Runs (bnd (ofO (bindG (.nm 4) (nD x) _)) _) 1 _
      rw [bG_nm, ofR, bndR]
      dsimp only [List.set]
      unfold shB
      refine Runs.cs (b := 1) (k := 0) (I := fun ρ' => ∃ y ∈ left, ρ' = [some (.st, false), some (d, false), some (.lst (left.map h), true), some (.lst (found.map h), true), some (nD x, false), some (h y, false)]) ?_ ?_
      · have ec : ev (callF M.tab (n + 3)) [some (.st, false), some (d, false), some (.lst (left.map h), true), some (.lst (found.map h), true), some (nD x, false), b] (.call "_law_of" [(.var 0), (.var 2)] []) = Γ (n + 3) "_law_of" [.st, .lst (left.map h)] := by
          rw [ev]
          simp only [evs, ev, getE_zero, getE_succ, ofR, bndR, permL]
        refine Runs.mono (Runs.asg (Runs.of_eq ec (f__law_of n left (by omega) (by omega)))) (Nat.le_refl _) ?_
        rintro o ⟨ρ', rfl, d', ⟨y, hy, rfl⟩, rfl⟩
        rw [after_im (g.mu y)]
        exact ⟨_, rfl, y, hy, rfl⟩
      · rintro ρ' ⟨y, hy, rfl⟩
        have s2 : evC (callF M.tab (n + 3)) (.app 3 (.var 5)) [some (.st, false), some (d, false), some (.lst (left.map h), true), some (.lst (found.map h), true), some (nD x, false), some (h y, false)] = ret (.nx [some (.st, false), some (d, false), some (.lst (left.map h), true), some (.lst ((found ++ [y]).map h), true), some (nD x, false), some (h y, false)]) := by
          have zf : (found.map h).length < sizeLine := by
            rw [List.length_map]
            exact Nat.lt_of_le_of_lt (by omega : found.length ≤ 100) (by decide)
          rw [evC, own_l _ 3 (found.map h) rfl, ofR, bndR, ev]
          simp only [getE_zero, getE_succ, ofR, bndR, zf, g.mu, true_and, if_true]
          simp
        have s3 : evC (callF M.tab (n + 3)) (.rem 2 (.var 5)) [some (.st, false), some (d, false), some (.lst (left.map h), true), some (.lst ((found ++ [y]).map h), true), some (nD x, false), some (h y, false)] = ret (.nx [some (.st, false), some (d, false), some (.lst ((left.erase y).map h), true), some (.lst ((found ++ [y]).map h), true), some (nD x, false), some (h y, false)]) := by
          rw [evC, own_l _ 2 (left.map h) rfl, ofR, bndR, ev]
          simp only [getE_zero, getE_succ, ofR, bndR, g.s1, g.sl, Bool.and_self, if_true, rem_of g y hy]
          rfl
        rw [cs_nx s2, cs_nx s3, evCs]
        refine Runs.ret ⟨_, rfl, left.erase y, found ++ [y], _, _, rfl, ?_, by simp [ln]⟩
        rw [List.append_assoc]
        exact ((List.perm_cons_erase hy).symm.append_left found).trans pm
  have s2 : evC (callF M.tab (n + 3)) (.for_ (.nm 4) .rng [(.bi .len [(.var 2)])] shB) [some (.st, false), some (d, false), some (.lst (xs.map h), true), some (.lst [], true), none, none] = loopC (fun d ρ => bnd (ofO (bindG (.nm 4) d ρ)) fun ρ' => evCs (callF M.tab (n + 3)) shB ρ') ((List.range xs.length).map nD) [some (.st, false), some (d, false), some (.lst (xs.map h), true), some (.lst [], true), none, none] := by
    have l1 : lenD (.lst (xs.map h)) = some (.int xs.length) := by simp [lenD]
    have mu0 : mutDs [D.int (xs.length : Int)] = false := by simp [mutDs]
    rw [evC]
    simp only [evs, ev, getE_zero, getE_succ, ofR, bndR, bi_len, l1, it_rng0 xs.length (by omega), afters, mu0, if_false, Bool.false_eq_true]
  refine Runs.out (Runs.mono (Runs.cs (b := xs.length) (k := 0) (I := I (List.range xs.length)) (s2 ▸ lp) (P := fun o => ∃ d, (∃ zs : List α, zs.Perm xs ∧ d = .lst (zs.map h)) ∧ o = Out.rt d) ?_) (Nat.le_refl _) fun _ z => z)
  rintro ρ' ⟨left, found, a, b, rfl, pm, ln⟩
  have lp := pm.length_eq
  rw [List.length_append, ln, List.length_range] at lp
  have l0 : left = [] := List.eq_nil_of_length_eq_zero (by omega)
  subst l0
  rw [List.append_nil] at pm
  refine Runs.rtl (Runs.of (a := .lst (found.map h)) ?_ ⟨found, pm, rfl⟩)
  rw [ev]
  simp only [getE_zero, getE_succ, ofR, bndR]
end
end Lf
end
section
namespace Lf
open PySem Mp
theorem srt_N (s : List Nat) : srtOk (s.map nD) = true := by
  unfold srtOk
  simp only [Bool.and_eq_true,
                                                                                                    Bool.or_eq_true]
  refine ⟨⟨List.all_eq_true.mpr fun x hx => List.all_eq_true.mpr fun y hy => ?_, List.all_eq_true.mpr fun x hx => ?_⟩, .inr (List.all_eq_true.mpr fun x hx => ?_)⟩
  · obtain ⟨a, _, rfl⟩ := List.mem_map.mp hx
    obtain ⟨b, _, rfl⟩ :=
                                                                                                    List.mem_map.mp hy
    rfl
  · obtain ⟨a, _, rfl⟩ := List.mem_map.mp hx
    exact shp_int _
  · obtain ⟨a, _, rfl⟩ := List.mem_map.mp hx
    rfl
/-- numbers sorted -/
theorem bi_srt (s : List Nat) (nd : s.Nodup) : ∃ z : List Nat, biD .srt [eN s] = some (eN z) ∧ z.Perm s ∧ z.Pairwise (· < ·) := by
  obtain ⟨zs, p, e3⟩ := perm_back (f := nD) (sort_perm (s.map nD)) s rfl
  have e2 : biD .srt [eN s] = some (.lst (sortD (s.map nD))) := by
    show (if srtOk (s.map nD) then some (D.lst (sortD (s.map nD))) else none) = _
    rw [srt_N, if_pos rfl]
  refine ⟨zs, by rw [e2, e3]; rfl, p, ?_⟩
  have pw := sort_pw (s.map nD)
  rw [e3] at pw
  have nz := p.nodup_iff.mpr nd
  refine List.Pairwise.imp (fun {a b} ⟨h1, h2⟩ => ?_) (nz.and (List.pairwise_map.mp pw))
  rw [le_data (show okO (nD b) (nD a) = true from rfl), Bool.not_eq_true', ltD_int, decide_eq_false_iff_not] at h2
  omega
def smB : List C := [(.iff (.an (.cmp .Lt (.bi .len [(.var 3)]) (.var 2)) (.cmp .NotIn (.var 4) (.var 3))) [(.app 3 (.var 4))] [])]
theorem nodup_len {a b : List Nat} (nd : a.Nodup) (h : ∀ x ∈ a, x ∈ b) : a.length ≤ b.length := L2.nat_nodup_len a b nd h
theorem f__law_some (n : Nat) (g : List Nat) (nd : g.Nodup) (hg : g.length ≤ 100) (least : Nat) (hl : least ≤ g.length) : Runs (Γ (n + 5) "_law_some" [.st, eN g, .int least]) (2 * g.length) fun r => ∃ s : List Nat, r = eS s ∧ s.Pairwise (· < ·) ∧ (∀ x ∈ s, x ∈ g) ∧ least ≤ s.length := by
  rw [Γ, call_code t__law_some rfl]
  show Runs (bnd (evCs (callF M.tab (n + 4)) [(.asg (.nm 3) (.lc (.nm 4) .val [(.var 1)] (some (.cmp .Eq (.call "_law_draw" [(.var 0), (.con (.int 2))] []) (.con (.int 0)))) (.var 4))), (.for_ (.nm 4) .val [(.call "_law_shuffled" [(.var 0), (.var 1)] [])] smB), (.ret (.bi .tup [(.bi .srt [(.var 3)])]))] [some (.st, false), some (eN g, false), some (.int least, false), none, none]) outD) _ _
  have zg := small_len (Nat.le_refl 100) hg
  have s1 : Runs (evC (callF M.tab (n + 4)) (.asg (.nm 3) (.lc (.nm 4) .val [(.var 1)] (some (.cmp .Eq (.call "_law_draw" [(.var 0), (.con (.int 2))] []) (.con (.int 0)))) (.var 4))) [some (.st, false), some (eN g, false), some (.int least, false), none, none]) g.length fun o => ∃ ρ', o = .nx ρ' ∧ ∃ l : List Nat, l.Sublist g ∧ ρ' = [some (.st, false), some (eN g, false), some (.int least, false), some (eN l, true), none] := by
    refine Runs.mono (Runs.asg (P := fun d => ∃ l : List Nat, l.Sublist g ∧ d = eN l) ?_) (Nat.le_refl _) ?_
    · have e : ev (callF M.tab (n + 4)) [some (.st, false), some (eN g, false), some (.int least, false), none, none] (.lc (.nm 4) .val [(.var 1)] (some (.cmp .Eq (.call "_law_draw" [(.var 0), (.con (.int 2))] []) (.con (.int 0)))) (.var 4)) =
          bnd (nox (colM (fun d => bnd (ofO (bindG (.nm 4) d [some (.st, false), some (eN g, false), some (.int least, false), none, none])) fun ρ' => bnd (tsto (callF M.tab (n + 4)) ρ' (some (.cmp .Eq (.call "_law_draw" [(.var 0), (.con (.int 2))] []) (.con (.int 0))))) fun c => if c then bnd (ev (callF M.tab (n + 4)) ρ' (.var 4)) fun y => ret (some y) else ret none) (g.map nD))) fun ys => if (g.map nD).length ≤ sizeLine then ret (.lst ys) else no := by
        rw [ev]
        simp only [evs, ev, getE_zero, getE_succ, ofR, bndR, it_val, seq_N]
      rw [e]
      refine Runs.bnd0 (P := fun r => ∃ l : List Nat, l.Sublist g ∧ r = l.map nD) ?_ ?_
      · refine Runs.nox ?_
        have := Runs.col (h := nD) (xs := g) (b := 1) (f := fun d => bnd (ofO (bindG (.nm 4) d [some (.st, false), some (eN g, false), some (.int least, false), none, none])) fun ρ' => bnd (tsto (callF M.tab (n + 4)) ρ' (some (.cmp .Eq (.call "_law_draw" [(.var 0), (.con (.int 2))] []) (.con (.int 0))))) fun c => if c then bnd (ev (callF M.tab (n + 4)) ρ' (.var 4)) fun y => ret (some y) else ret none) fun x hx => ?_
        · simpa using this
        · rw [bG_nm, ofR, bndR]
          dsimp only [List.set]
          have et : tsto (callF M.tab (n + 4)) [some (.st, false), some (eN g, false), some (.int least, false), none, some (nD x, false)] (some (.cmp .Eq (.call "_law_draw" [(.var 0), (.con (.int 2))] []) (.con (.int 0)))) = bnd (Γ (n + 4) "_law_draw" [.st, .int 2]) fun y => ofO (cmpD .Eq y (.int 0)) := by
            rw [tsto, tst, ev]
            simp only [evs, ev, getE_zero, getE_succ, ofR, bndR, permL]
          rw [et]
          refine Runs.bnd0 (P := fun _ => True) (Runs.bnd0 (f__law_draw (n + 2) 2 (by decide) (by decide)) ?_) ?_
          · rintro d ⟨r, hr, rfl⟩
            rw [c_eq, ofR]
            exact Runs.ret trivial
          · intro b _
            cases b with
            | true =>
              rw [if_pos rfl, ev]
              simp only [getE_zero, getE_succ, ofR, bndR]
              exact Runs.ret (.inr rfl)
            | false =>
              rw [if_neg (by decide)]
              exact Runs.ret (.inl rfl)
      · rintro r ⟨l, sl, rfl⟩
        rw [List.length_map, if_pos zg]
        exact Runs.ret ⟨l, sl, rfl⟩
    · rintro o ⟨ρ', rfl, d, ⟨l, sl, rfl⟩, rfl⟩
      rw [after_N rfl]
      exact ⟨_, rfl, l, sl, rfl⟩
  let I : List Nat → Mp.Env → Prop := fun pre ρ => ∃ (l : List Nat) (b : Option Slot), ρ = [some (.st, false), some (eN g, false), some (.int least, false), some (eN l, true), b] ∧ l.Nodup ∧ (∀ x ∈ l, x ∈ g) ∧ (least ≤ l.length ∨ ∀ x ∈ pre, x ∈ l)
  refine Runs.out (Runs.mono (Runs.cs s1 (k := g.length) (P := fun o => ∃ d, (∃ s : List Nat, d = eS s ∧ s.Pairwise (· < ·) ∧ (∀ x ∈ s, x ∈ g) ∧ least ≤ s.length) ∧ o = Out.rt d) ?_) (by omega) fun _ z => z)
  rintro ρ' ⟨l0, sl0, rfl⟩
  have s2 : Runs (evC (callF M.tab (n + 4)) (.for_ (.nm 4) .val [(.call "_law_shuffled" [(.var 0), (.var 1)] [])] smB) [some (.st, false), some (eN g, false), some (.int least, false), some (eN l0, true), none]) g.length fun o => ∃ ρ', o = .nx ρ' ∧ I g ρ' := by
    have e : evC (callF M.tab (n + 4)) (.for_ (.nm 4) .val [(.call "_law_shuffled" [(.var 0), (.var 1)] [])] smB) [some (.st, false), some (eN g, false), some (.int least, false), some (eN l0, true), none] =
        bnd (bnd (Γ (n + 4) "_law_shuffled" [.st, eN g]) fun x => ret [x]) fun ds => bnd (ofO (itD .val ds)) fun xs => loopC (fun d ρ => bnd (ofO (bindG (.nm 4) d ρ)) fun ρ' => evCs (callF M.tab (n + 4)) smB ρ') xs (afters [(.call "_law_shuffled" [(.var 0), (.var 1)] [])] ds [some (.st, false), some (eN g, false), some (.int least, false), some (eN l0, true), none]) := by
      rw [evC, evs, ev]
      simp only [evs, ev, getE_zero, getE_succ, ofR, bndR, permL]
    rw [e]
    have sh : Runs (bnd (Γ (n + 4) "_law_shuffled" [.st, eN g]) fun x => ret [x]) g.length fun ds => ∃ zs : List Nat, zs.Perm g ∧ ds = [eN zs] := by
      refine Runs.bnd0 (f__law_shuffled n good_N g hg (eN g) (seq_N g) rfl) ?_
      rintro d ⟨zs, pm, rfl⟩
      exact Runs.ret ⟨zs, pm, rfl⟩
    refine Runs.bnd0 sh ?_
    · rintro ds ⟨zs, pm, rfl⟩
      rw [it_val, seq_N, ofR, bndR]
      have ea : afters [(.call "_law_shuffled" [(.var 0), (.var 1)] [])] [eN zs] [some (.st, false), some (eN g, false), some (.int least, false), some (eN l0, true), none] = [some (.st, false), some (eN g, false), some (.int least, false), some (eN l0, true), none] := by
        have m1 : mutDs [eN zs] = true := rfl
        unfold afters
        rw [m1, if_pos rfl]
        rfl
      rw [ea]
      have := Runs.loop (h := nD) (f := fun d ρ => bnd (ofO (bindG (.nm 4) d ρ)) fun ρ' => evCs (callF M.tab (n + 4)) smB ρ') (xs := zs) (I := I) (b := 0) ?_ [some (.st, false), some (eN g, false), some (.int least, false), some (eN l0, true), none] ⟨l0, none, rfl, sl0.nodup nd, fun x hx => sl0.subset hx, .inr fun x hx => by cases hx⟩
      · refine Runs.mono this (by simp) ?_
        rintro o ⟨ρ', rfl, l, b, rfl, h1, h2, h3⟩
        exact ⟨_, rfl, l, b, rfl, h1, h2, h3.imp id fun z x hx => z x (pm.mem_iff.mpr hx)⟩
      · rintro pre x post ep ρ ⟨l, b, rfl, h1, h2, h3⟩
        have xg : x ∈ g := pm.mem_iff.mp (by rw [ep]; simp)
        show Runs (bnd (ofO (bindG (.nm 4) (nD x) _)) _) 0 _
        rw [bG_nm, ofR, bndR]
        dsimp only [List.set]
        have lg : l.length ≤ g.length := nodup_len h1 h2
        have et : tst (callF M.tab (n + 4)) [some (.st, false), some (eN g, false), some (.int least, false), some (eN l, true), some (nD x, false)] (.an (.cmp .Lt (.bi .len [(.var 3)]) (.var 2)) (.cmp .NotIn (.var 4) (.var 3))) = ret (decide (l.length < least) && !l.contains x) := by
          have c1 : cmpD .Lt (.int l.length) (.int least) = some (decide (l.length < least)) := by
            rw [c_lt]
            congr 1
            exact decide_eq_decide.mpr ⟨fun h => by omega, fun h => by omega⟩
          by_cases k : l.length < least
          · simp [evCs, evC, ev, evs, tst, tsto, evo, initE, permL, pickL, bG_nm, bG_tp, after, bndR, ofR, noxR, -bnd_ret, -ofO_some, -nox_ret, c1, k, -List.contains_eq_mem]
          · simp [evCs, evC, ev, evs, tst, tsto, evo, initE, permL, pickL, bG_nm, bG_tp, after, bndR, ofR, noxR, -bnd_ret, -ofO_some, -nox_ret, c1, k, -List.contains_eq_mem]
        rw [smB, evCs, evC, et, bndR]
        cases k : (decide (l.length < least) && !l.contains x) with
        | false =>
          rw [if_neg (by decide), evCs, bndR]
          refine Runs.ret ⟨_, rfl, l, _, rfl, h1, h2, ?_⟩
          rcases h3 with h3 | h3
          · exact .inl h3
          · by_cases z : l.length < least
            · right
              intro y hy
              rcases List.mem_append.mp hy
                                                                                                    with hy | hy
              · exact h3 y hy
              · rw [List.mem_singleton.mp hy]
                simpa [z] using k
            · exact .inl (by omega)
        | true =>
          rw [Bool.and_eq_true, decide_eq_true_iff, Bool.not_eq_true'] at k
          have nx : x ∉ l := by simpa using k.2
          have zl : (l.map nD).length < sizeLine := by
            rw [List.length_map]
            exact Nat.lt_of_le_of_lt (by omega : l.length ≤ 100) (by decide)
          have s3 : evC (callF M.tab (n + 4)) (.app 3 (.var 4)) [some (.st, false), some (eN g, false), some (.int least, false), some (eN l, true), some (nD x, false)] = ret (.nx [some (.st, false), some (eN g, false), some (.int least, false), some (eN (l ++ [x]), true), some (nD x, false)]) := by
            rw [evC, own_l _ 3 (l.map nD) rfl, ofR, bndR, ev]
            simp only [getE_zero, getE_succ, ofR, bndR, zl, mut_int, true_and, if_true]
            simp [eN]
          rw [if_pos rfl, evCs, s3, bndR]
          dsimp only
          rw [evCs, bndR]
          refine Runs.ret ⟨_, rfl, l ++ [x], _, rfl, ?_, ?_, ?_⟩
          · rw [List.nodup_append]
            exact ⟨h1, by simp, fun a ha b hb e => by
              rw [List.mem_singleton.mp hb] at e
              exact nx (e ▸ ha)⟩
          · intro y hy
            rcases List.mem_append.mp hy
                                                                                                    with hy | hy
            · exact h2 y hy
            · rw [List.mem_singleton.mp hy]
              exact xg
          · rcases h3 with h3 | h3
            · left
              rw [List.length_append]
              omega
            · right
              intro y hy
              rcases List.mem_append.mp hy
                                                                                                    with hy | hy
              · exact List.mem_append_left _ (h3 y hy)
              · exact List.mem_append_right _ hy
  refine Runs.mono (Runs.cs s2 (k := 0) (P := fun o => ∃ d, (∃ s : List Nat, d = eS s ∧ s.Pairwise (· < ·) ∧ (∀ x ∈ s, x ∈ g) ∧ least ≤ s.length) ∧ o = Out.rt d) ?_) (Nat.le_refl _) fun _ z => z
  rintro ρ' ⟨l, b, rfl, h1, h2, h3⟩
  have ll : least ≤ l.length := by
    rcases h3 with h3 | h3
    · exact h3
    · exact Nat.le_trans hl (nodup_len nd h3)
  obtain ⟨z, ez, pz, az⟩ := bi_srt l h1
  refine Runs.rtl (Runs.of (a := eS z) ?_ ⟨z, rfl, az, fun x hx => h2 x (pz.mem_iff.mp hx), by rw [pz.length_eq]; exact ll⟩)
  rw [ev]
  simp only [evs, ev, getE_zero, getE_succ, ofR, bndR, ez, bi_tup, seq_N, Option.map_some]
  rfl
end Lf
end
section
namespace Lf
open PySem Mp
theorem Fit.symm {a b : List Nat} (h : Fit a b) : Fit b a := by
  rcases h with h | h | h
  · exact .inl fun x hx k => h x k hx
  · exact .inr (.inr h)
  · exact .inr (.inl h)
theorem Fit.refl (a : List Nat) : Fit a a := .inr (.inl fun x hx => hx)
/-- lots of leaves, and the sets put together so far -/
structure Lots (lv : List Nat) (L F : Fam) : Prop where
  nd : L.Nodup
  ne : ∀ t ∈ L, t ≠ []
  asc : ∀ t ∈ L, t.Pairwise (· < ·)
  sub : ∀ t ∈ L, ∀ x ∈ t, x ∈ lv
  dis : ∀ a ∈ L, ∀ b ∈ L, a ≠ b → ∀ x ∈ a, x ∉ b
  few : L.length ≤ lv.length
  fas : ∀ s ∈ F, s.Pairwise (· < ·) ∧ 2 ≤ s.length ∧ ∀ x ∈ s, x ∈ lv
  ins : ∀ s ∈ F, ∃ t ∈ L, ∀ x ∈ s, x ∈ t
  fit : ∀ a ∈ F, ∀ b ∈ F, Fit a b
theorem lots_start {lv : List Nat} (nd : lv.Nodup) : Lots lv (lv.map fun x => [x]) [] := by
  have mem : ∀ t ∈ lv.map fun x => [x], ∃ x ∈ lv, t = [x] := fun t ht => by
    obtain ⟨x, hx, rfl⟩ := List.mem_map.mp ht
    exact ⟨x, hx, rfl⟩
  refine ⟨List.pairwise_map.mpr (nd.imp fun h e => h (List.cons.inj e).1), fun t ht => ?_, fun t ht => ?_, fun t ht y hy => ?_, fun a ha b hb ne y hy k => ?_, by simp, fun s hs => (by cases hs), fun s hs => (by cases hs), fun s hs => (by cases hs)⟩
  · obtain ⟨x, _, rfl⟩ := mem t ht
    simp
  · obtain ⟨x, _, rfl⟩ := mem t ht
    simp
  · obtain ⟨x, hx, rfl⟩ := mem t ht
    rw [List.mem_singleton.mp hy]
    exact hx
  · obtain ⟨x, _, rfl⟩ := mem a ha
    obtain ⟨z, _, rfl⟩ := mem b hb
    rw [List.mem_singleton] at hy k
    exact ne (by rw [← hy, ← k])
theorem Lots.flat {lv : List Nat} {L F ch : Fam} (h : Lots lv L F) (cs : ∀ t ∈ ch, t ∈ L) (cn : ch.Nodup) : ch.flatten.Nodup ∧ ch.flatten.length ≤ lv.length := by
  have nd : ch.flatten.Nodup := by
    refine List.pairwise_flatten.mpr ⟨fun l hl => (h.asc l (cs l hl)).imp fun z => Nat.ne_of_lt z, ?_⟩
    refine (List.pairwise_iff_getElem.mpr fun i j hi hj hij x hx y hy e => ?_)
    have ne : ch[i] ≠ ch[j] := List.pairwise_iff_getElem.mp cn i j hi hj hij
    exact h.dis _ (cs _ (List.getElem_mem hi)) _ (cs _ (List.getElem_mem hj)) ne x hx (e ▸ hy)
  refine ⟨nd, nodup_len nd fun x hx => ?_⟩
  obtain ⟨t, ht, hxt⟩ := List.mem_flatten.mp hx
  exact h.sub t (cs t ht) x hxt
theorem Lots.step {lv : List Nat} {L F ch : Fam} {u : List Nat} (h : Lots lv L F) (cs : ∀ t ∈ ch, t ∈ L) (cn : ch.Nodup) (c2 : 2 ≤ ch.length) (pu : u.Perm ch.flatten) (au : u.Pairwise (· < ·)) :
    Lots lv ((L.filter fun t => !ch.contains t) ++ [u]) (F ++ [u]) := by
  have mu : ∀ x, x ∈ u ↔ ∃ t ∈ ch, x ∈ t := fun x => by rw [pu.mem_iff, List.mem_flatten]
  have mf : ∀ t, t ∈ L.filter (fun t => !ch.contains t) ↔ t ∈ L ∧ t ∉ ch := fun t => by simp [List.mem_filter]
  have l2 : 2 ≤ u.length := by
    rw [pu.length_eq]
    match ch, c2 with
    | a :: b :: r, _ =>
      have ha := List.length_pos_iff.mpr (h.ne a (cs a (by simp)))
      have hb := List.length_pos_iff.mpr (h.ne b (cs b (by simp)))
      simp only [List.flatten_cons, List.length_append]
      omega
  have du : ∀ t ∈ L, t ∉ ch → ∀ x ∈ t, x ∉ u := fun t ht k x hx hu => by
    obtain ⟨z, hz, hxz⟩ := (mu x).mp hu
    exact h.dis t ht z (cs z hz) (fun e => k (e ▸ hz)) x hx hxz
  have su : ∀ x ∈ u, x ∈ lv := fun x hx => by
    obtain ⟨t, ht, hxt⟩ := (mu x).mp hx
    exact h.sub t (cs t ht) x hxt
  have uf : ∀ s ∈ F, Fit s u := fun s hs => by
    obtain ⟨t, ht, st⟩ := h.ins s hs
    by_cases k : t ∈ ch
    · exact .inr (.inl fun x hx => (mu x).mpr ⟨t, k, st x hx⟩)
    · exact .inl fun x hx => du t ht k x (st x hx)
  have mem : ∀ t, t ∈ (L.filter fun t => !ch.contains t) ++ [u] → (t ∈ L ∧ t ∉ ch) ∨ t = u := fun t ht => by
    rcases List.mem_append.mp ht with z | z
    · exact .inl ((mf t).mp z)
    · exact .inr (List.mem_singleton.mp z)
  have memF : ∀ t, t ∈ F ++ [u] → t ∈ F ∨ t = u := fun t ht => by
    rcases List.mem_append.mp ht with z | z
    · exact .inl z
    · exact .inr (List.mem_singleton.mp z)
  refine ⟨?_, fun t ht => ?_, fun t ht => ?_, fun t ht => ?_, fun a ha b hb ne => ?_, ?_, fun s hs => ?_, fun s hs => ?_, fun a ha b hb => ?_⟩
  · rw [List.nodup_append]
    refine ⟨h.nd.filter _, by simp, fun a ha b hb e => ?_⟩
    rw [List.mem_singleton.mp hb] at e
    subst e
    have := (mf a).mp ha
    have ap : a ≠ [] := fun e => by
      rw [e] at l2
      simp at l2
    obtain ⟨x, hx⟩ := List.exists_mem_of_ne_nil a ap
    exact du a this.1 this.2 x hx hx
  · rcases mem t ht with z | rfl
    · exact h.ne t z.1
    · intro e
      rw [e] at l2
      simp at l2
  · rcases mem t ht with z | rfl
    · exact h.asc t z.1
    · exact au
  · rcases mem t ht with z | rfl
    · exact h.sub t z.1
    · exact su
  · rcases mem a ha with z | rfl
    · rcases mem b hb with y | rfl
      · exact h.dis a z.1 b y.1 ne
      · exact du a z.1 z.2
    · rcases mem b hb with y | rfl
      · exact fun x hx k => du b y.1 y.2 x k hx
      · exact absurd rfl ne
  · rw [List.length_append,
                                                                                                    List.length_singleton]
    have : (L.filter fun t => !ch.contains t).length < L.length := by
      rw [List.length_filter_lt_length_iff_exists]
      match ch, c2 with
      | a :: b :: r, _ => exact ⟨a, cs a (by simp), by simp⟩
    have := h.few
    omega
  · rcases memF s hs with z | rfl
    · exact h.fas s z
    · exact ⟨au, l2, su⟩
  · rcases memF s hs with z | rfl
    · obtain ⟨t, ht, st⟩ := h.ins s z
      by_cases k : t ∈ ch
      · exact ⟨u, by simp, fun x hx => (mu x).mpr ⟨t, k, st x hx⟩⟩
      · exact ⟨t, List.mem_append_left _ ((mf t).mpr ⟨ht, k⟩), st⟩
    · exact ⟨s, by simp, fun x hx => hx⟩
  · rcases memF a ha with z | rfl
    · rcases memF b hb with y | rfl
      · exact h.fit a z b y
      · exact uf a z
    · rcases memF b hb with y | rfl
      · exact (uf b y).symm
      · exact Fit.refl _
end Lf
end
section
namespace Lf
open PySem Mp
theorem nodup_lenF : ∀ {a b : Fam}, a.Nodup → (∀ x ∈ a, x ∈ b) → a.length ≤ b.length
  | [], _, _, _ =>
                                                                                                    Nat.zero_le _
  | x :: a, b, nd, h => by
    have xb := h x List.mem_cons_self
    have n2 := List.nodup_cons.mp nd
    have := nodup_lenF (b := b.erase x) n2.2 fun y hy => (List.mem_erase_of_ne (fun (e : y = x) => n2.1 (e ▸ hy))).mpr (h y (List.mem_cons_of_mem _ hy))
    rw [List.length_erase_of_mem xb] at this
    have := List.length_pos_of_mem xb
    rw [List.length_cons]
    omega
theorem f__law_count (n a b : Nat) (h : a ≤ b) (h2 : b < 1000) : Runs (Γ (n + 3) "_law_count" [.st, .int a, .int b]) 1 fun d => ∃ c : Nat, a ≤ c ∧ c ≤ b ∧ d = nD c := by
  rw [Γ, call_code t__law_count rfl]
  refine Runs.out (Runs.rtl ?_)
  have e : ev (callF M.tab (n + 2)) [some (.st, false), some (.int a, false), some (.int b, false)] (.bin .Add (.var 1) (.call "_law_draw" [(.var 0), (.bin .Add (.bin .Sub (.var 2) (.var 1)) (.con (.int 1)))] [])) = bnd (Γ (n + 2) "_law_draw" [.st, .int ((b - a + 1 : Nat) : Int)]) fun y => ofO (binD .Add (.int a) y) := by
    have : ((b - a + 1 : Nat) : Int) = (b : Int) - a + 1 := by omega
    rw [ev, this]
    simp only [evs, ev, getE_zero, getE_succ, ofR, bndR, permL, b_sub, b_add]
  refine Runs.of_eq e (Runs.bnd0 (f__law_draw n (b - a + 1) (by omega) (by omega)) ?_)
  rintro d ⟨r, hr, rfl⟩
  rw [b_add, ofR]
  exact Runs.ret ⟨a + r, by omega, by omega, by show D.int _ = D.int _; congr 1⟩
theorem at_end {α : Type} (xs : List α) (x : α) : L2.atI (xs ++ [x]) (-1) = some x := by
  unfold L2.atI L2.ixN
  rw [if_neg (by decide), List.length_append, List.length_singleton, if_pos (by omega)]
  show (xs ++ [x])[(-1 + ((xs.length + 1 : Nat) : Int)).toNat]? = _
  rw [show (-1 + ((xs.length + 1 : Nat) : Int)).toNat = xs.length from by omega]
  simp
theorem lt_nat (a b : Nat) : cmpD .Lt (.int (a : Int)) (.int (b : Int)) = some (decide (a < b)) := by
  rw [c_lt]
  congr 1
  exact decide_eq_decide.mpr ⟨fun h => by omega, fun h => by omega⟩
theorem sl_L (F : Fam) (i : Nat) : slD (eL F) none (some (i : Int)) = some (eL (F.take i)) := by
  show some (D.lst (cutD (F.map eS) none (some (i : Int)))) = _
  rw [cut_take, ← List.map_take]
  rfl
theorem b_addN (a b : List Nat) (h : a.length + b.length ≤ 200) : binD .Add (eN a) (eN b) = some (eN (a ++ b)) := by
  have z : a.length + b.length ≤ sizeLine := Nat.le_trans h (by decide)
  show (if (a.map nD).length + (b.map nD).length ≤ sizeLine then some (D.lst (a.map nD ++ b.map nD)) else none) = _
  rw [List.length_map, List.length_map, if_pos z, ← List.map_append]
  rfl
theorem ev_one {G : Gam} {ρ : Mp.Env} {i : Nat} {g : List Nat} {t : T} {d : D} (hi : i < ρ.length) (hg : g.length ≤ 100) (ht : ev G ρ t = ret d) (hd : seqL d = some (g.map nD)) : ev G ρ (.lc (.nm i) .val [t] none (.tup [.var i])) = ret (eL (g.map fun x => [x])) := by
  have z := small_len (Nat.le_refl 100) hg
  have one : (1 : Nat) ≤ sizeLine := by decide
  rw [ev, evs, evs, ht, bndR, bndR, bndR, it_val, hd, ofR, bndR, colM_map (g := fun x => some (eS [x])) fun x hx => ?_, noxR, bndR, List.length_map, if_pos z]
  · unfold eL
    rw [List.map_map]
    congr 2
    clear ht hd z hg
    induction g with
    | nil => rfl
    | cons a r ih =>
      rw [List.filterMap_cons]
      simp [ih]
  · have g : getE (ρ.set i (some (nD x, false))) i = some (nD x) := by
      unfold getE
      rw [List.getElem?_set_self hi]
    rw [bG_nm, ofR, bndR, tsto, bndR, if_pos rfl, ev, evs, evs, ev, g, ofR, bndR, bndR, bndR]
    simp [evCs, evC, ev, evs, tst, tsto, evo, initE, permL, pickL, bG_nm, bG_tp, after, bndR, ofR, noxR, -bnd_ret, -ofO_some, -nox_ret, one, eS]
def mbB : List C := [(.asg (.nm 10) (.bin .Add (.var 10) (.bi .lst [(.var 9)])))]
def fmB : List C := [(.asg (.nm 7) (.ite (.orr (.var 2) (.cmp .Gt (.call "_law_draw" [(.var 0), (.con (.int 3))] []) (.con (.int 0)))) (.con (.int 2)) (.bi .min [(.bi .len [(.var 3)]), (.bin .Add (.con (.int 2)) (.call "_law_draw" [(.var 0), (.con (.int 3))] []))]))), (.asg (.nm 8) (.sl (.call "_law_shuffled" [(.var 0), (.var 3)] []) none (some (.var 7)))), (.asg (.nm 3) (.lc (.nm 9) .val [(.var 3)] (some (.cmp .NotIn (.var 9) (.var 8))) (.var 9))), (.asg (.nm 10) (.lst [])), (.for_ (.nm 9) .val [(.var 8)] mbB), (.app 3 (.bi .tup [(.bi .srt [(.var 10)])])), (.app 4 (.ix (.var 3) (.neg (.con (.int 1)))))]
section
variable (n : Nat) (lv : List Nat) (fk : Bool)
abbrev fE (L F : Fam) (a b c d e f : Option Slot) : Mp.Env := [some (.st, false), some (eN lv, false), some (.bl fk, false), some (eL L, true), some (eL F, true), a, b, c, d, e, f]
theorem many_ok (L F : Fam) (l2 : 2 ≤ L.length) (a b c d e f : Option Slot) : Runs (evC (callF M.tab (n + 5)) (.asg (.nm 7) (.ite (.orr (.var 2) (.cmp .Gt (.call "_law_draw" [(.var 0), (.con (.int 3))] []) (.con (.int 0)))) (.con (.int 2)) (.bi .min [(.bi .len [(.var 3)]), (.bin .Add (.con (.int 2)) (.call "_law_draw" [(.var 0), (.con (.int 3))] []))]))) (fE lv fk L F a b c d e f)) 2
    fun o => ∃ ρ', o = .nx ρ' ∧ ∃ m : Nat, 2 ≤ m ∧ ρ' = fE lv fk L F a b (some (nD m, false)) d e f := by
  refine Runs.mono (Runs.asg (P := fun d => ∃ m : Nat, 2 ≤ m ∧ d = nD m) (b := 2) ?_) (Nat.le_refl _) ?_
  · rw [ev]
    have et : tst (callF M.tab (n + 5)) (fE lv fk L F a b c d e f) (.orr (.var 2) (.cmp .Gt (.call "_law_draw" [(.var 0), (.con (.int 3))] []) (.con (.int 0)))) = if fk then ret true else bnd (Γ (n + 5) "_law_draw" [.st, .int 3]) fun y => ofO (cmpD .Gt y (.int 0)) := by
      rw [tst, tst]
      simp only [evs, ev, tst, getE_zero, getE_succ, ofR, bndR, permL, tr_bl]
    rw [et]
    refine Runs.mono (Runs.bnd (P := fun _ => True) (b := 1) (c := 1) ?_ ?_) (by decide) fun _ z => z
    · cases fk with
      | true => exact Runs.ret trivial
      | false =>
        rw [if_neg (by decide)]
        refine Runs.bnd0 (f__law_draw (n + 3) 3 (by decide) (by decide)) ?_
        rintro d ⟨r, hr, rfl⟩
        rw [c_gt, ofR]
        exact Runs.ret trivial
    · intro k _
      cases k with
      | true => exact Runs.ret ⟨2, Nat.le_refl 2, rfl⟩
      | false =>
        rw [if_neg (by decide)]
        have e2 : ev (callF M.tab (n + 5)) (fE lv fk L F a b c d e f) (.bi .min [(.bi .len [(.var 3)]), (.bin .Add (.con (.int 2)) (.call "_law_draw" [(.var 0), (.con (.int 3))] []))]) = bnd (bnd (bnd (bnd (Γ (n + 5) "_law_draw" [.st, .int 3]) fun y => ofO (binD .Add (.int 2) y)) fun x => ret [x]) fun xs => ret (.int L.length :: xs)) fun ds => ofO (biD .min ds) := by
          rw [ev]
          simp only [evs, ev, getE_zero, getE_succ, ofR, bndR, permL, bi_len, len_L]
        rw [e2]
        have r1 : Runs (bnd (bnd (bnd (Γ (n + 5) "_law_draw" [.st, .int 3]) fun y => ofO (binD .Add (.int 2) y)) fun x => ret [x]) fun xs => ret (.int L.length :: xs)) 1 fun ds => ∃ r : Nat, ds = [.int L.length, nD (2 + r)] := by
          refine Runs.bnd0 (P := fun ds => ∃ r : Nat, ds = [nD (2 + r)]) (Runs.bnd0 (P := fun d => ∃ r : Nat, d = nD (2 + r)) (Runs.bnd0 (f__law_draw (n + 3) 3 (by decide) (by decide)) ?_) ?_) ?_
          · rintro d ⟨r, hr, rfl⟩
            rw [b_add, ofR]
            exact Runs.ret ⟨r, rfl⟩
          · rintro d ⟨r, rfl⟩
            exact Runs.ret ⟨r, rfl⟩
          · rintro d ⟨r, rfl⟩
            exact Runs.ret ⟨r, rfl⟩
        refine Runs.bnd0 r1 ?_
        rintro ds ⟨r, rfl⟩
        have e3 : biD .min [.int L.length, nD (2 + r)] = some (nD (if 2 + r < L.length then 2 + r else L.length)) := by
          show some (D.int (if ((2 + r : Nat) : Int) < (L.length : Int) then ((2 + r : Nat) : Int) else L.length)) = _
          by_cases z : 2 + r < L.length
          · rw [if_pos z, if_pos (by omega)]
          · rw [if_neg z, if_neg (by omega)]
        rw [e3, ofR]
        exact Runs.ret ⟨_, by split <;> omega, rfl⟩
  · rintro o ⟨ρ', rfl, d, ⟨m, hm, rfl⟩, rfl⟩
    rw [after_im rfl]
    exact ⟨_, rfl, m, hm, rfl⟩
theorem fam_step (hl : lv.length ≤ 12) (L F : Fam) (k : Lots lv L F) (lF : F.length ≤ 12) (l2 : 2 ≤ L.length) (a b c d e f : Option Slot) : Runs (evCs (callF M.tab (n + 5)) fmB (fE lv fk L F a b c d e f)) 14
    fun o => ∃ ρ', o = .nx ρ' ∧ ∃ L' F' a b c d e f, Lots lv L' F' ∧ F'.length = F.length + 1 ∧ ρ' = fE lv fk L' F' a b c d e f := by
  unfold fmB
  have lL : L.length ≤ 12 := Nat.le_trans k.few hl
  refine Runs.mono (Runs.cs (many_ok n lv fk L F l2 a b c d e f) (k := 12) (P := fun o => ∃ ρ', o = .nx ρ' ∧ ∃ L' F' a b c d e f, Lots lv L' F' ∧ F'.length = F.length + 1 ∧ ρ' = fE lv fk L' F' a b c d e f) ?_) (by decide) fun _ z => z
  rintro ρ' ⟨m, hm, rfl⟩
  have s2 : Runs (evC (callF M.tab (n + 5)) (.asg (.nm 8) (.sl (.call "_law_shuffled" [(.var 0), (.var 3)] []) none (some (.var 7)))) (fE lv fk L F a b (some (nD m, false)) d e f)) 12 fun o => ∃ ρ', o = .nx ρ' ∧ ∃ ch : Fam, (∃ zs : Fam, zs.Perm L ∧ ch = zs.take m) ∧ ρ' = fE lv fk L F a b (some (nD m, false)) (some (eL ch, true)) e f := by
    refine Runs.mono (Runs.asg (P := fun d => ∃ zs : Fam, zs.Perm L ∧ d = eL (zs.take m)) (b := 12) ?_) (Nat.le_refl _) ?_
    · have e : ev (callF M.tab (n + 5)) (fE lv fk L F a b (some (nD m, false)) d e f) (.sl (.call "_law_shuffled" [(.var 0), (.var 3)] []) none (some (.var 7))) = bnd (Γ (n + 5) "_law_shuffled" [.st, eL L]) fun x => ofO (slD x none (some (m : Int))) := by
        rw [ev, ev]
        simp only [evs, evo, ev, getE_zero, getE_succ, ofR, bndR, permL, intD_int]
      rw [e]
      refine Runs.bnd0 (Runs.mono (f__law_shuffled (n + 1) good_S L (by omega) (eL L) (seq_L L) rfl) lL fun _ z => z) ?_
      rintro d' ⟨zs, pm, rfl⟩
      rw [show D.lst (zs.map eS) = eL zs from rfl, sl_L, ofR]
      exact Runs.ret ⟨zs, pm, rfl⟩
    · rintro o ⟨ρ', rfl, d', ⟨zs, pm, rfl⟩, rfl⟩
      rw [after_L rfl]
      exact ⟨_, rfl, zs.take m, ⟨zs, pm, rfl⟩, rfl⟩
  refine Runs.mono (Runs.cs s2 (k := 0) (P := fun o => ∃ ρ', o = .nx ρ' ∧ ∃ L' F' a b c d e f, Lots lv L' F' ∧ F'.length = F.length + 1 ∧ ρ' = fE lv fk L' F' a b c d e f) ?_) (Nat.le_refl _) fun _ z => z
  rintro ρ' ⟨ch, ⟨zs, pm, ech⟩, rfl⟩
  have cs : ∀ t ∈ ch, t ∈ L := fun t ht => pm.mem_iff.mp (by rw [ech] at ht; exact List.mem_of_mem_take ht)
  have cn : ch.Nodup := by
    rw [ech]
    exact (pm.nodup_iff.mpr k.nd).sublist (List.take_sublist m zs)
  have c2 : 2 ≤ ch.length := by
    rw [ech, List.length_take, pm.length_eq]
    omega
  have cl : ch.length ≤ 12 := Nat.le_trans (nodup_lenF cn cs) lL
  obtain ⟨fn, fl⟩ := k.flat cs cn
  have s3 : evC (callF M.tab (n + 5)) (.asg (.nm 3) (.lc (.nm 9) .val [(.var 3)] (some (.cmp .NotIn (.var 9) (.var 8))) (.var 9))) (fE lv fk L F a b (some (nD m, false)) (some (eL ch, true)) e f) = ret (.nx (fE lv fk (L.filter fun t => !ch.contains t) F a b (some (nD m, false)) (some (eL ch, true)) e f)) := by
    rw [evC, ev_lcF (F := L) (p := fun t => !ch.contains t) (d := eL L) (by show 9 < 11; decide) (by rw [ev]; simp only [getE_zero, getE_succ, ofR]) (seq_L _) (by omega) fun s hs => by simp [evCs, evC, ev, evs, tst, tsto, evo, initE, permL, pickL, bG_nm, bG_tp, after, bndR, ofR, noxR, -bnd_ret, -ofO_some, -nox_ret, -List.contains_eq_mem], bndR, after_L rfl]
    rfl
  have s4 : evC (callF M.tab (n + 5)) (.asg (.nm 10) (.lst [])) (fE lv fk (L.filter fun t => !ch.contains t) F a b (some (nD m, false)) (some (eL ch, true)) e f) = ret (.nx (fE lv fk (L.filter fun t => !ch.contains t) F a b (some (nD m, false)) (some (eL ch, true)) e (some (eN [], true)))) := by
    have e0 : D.lst [] = eN [] := rfl
    have n0 : (0 : Nat) ≤ sizeLine := by decide
    rw [evC, ev, evs, bndR, List.length_nil, if_pos n0, bndR, e0, after_N rfl]
    rfl
  obtain ⟨ρ', h1, e', h2⟩ := loop_pre (h := eS) (f := fun d ρ => bnd (ofO (bindG (.nm 9) d ρ)) fun ρ' => evCs (callF M.tab (n + 5)) mbB ρ') (xs := ch)
    (I := fun (pre : Fam) (ρ : Mp.Env) => ∃ e', ρ = fE lv fk (L.filter fun t => !ch.contains t) F a b (some (nD m, false)) (some (eL ch, false)) e' (some (eN pre.flatten, true)))
    (fun pre x post ep ρ hi => by
      obtain ⟨e', rfl⟩ := hi
      refine ⟨_, ?_, some (eS x, false), rfl⟩
      have lx : pre.flatten.length + x.length ≤ 12 := by
        have := congrArg (fun z => List.length (List.flatten z)) ep
        simp only [List.flatten_append, List.flatten_cons, List.length_append] at this
        omega
      have e5 : ev (callF M.tab (n + 5)) (fE lv fk (L.filter fun t => !ch.contains t) F a b (some (nD m, false)) (some (eL ch, false)) (some (eS x, false)) (some (eN pre.flatten, true))) (.bin .Add (.var 10) (.bi .lst [(.var 9)])) = ret (eN (pre.flatten ++ x)) := by
        rw [ev, ev]
        simp only [evs, ev, getE_zero, getE_succ, ofR, bndR, bi_lst, seq_S, Option.map_some]
        rw [show D.lst (x.map nD) = eN x from rfl, b_addN _ _ (by omega), ofR]
      show bnd (ofO (bindG (.nm 9) (eS x) _)) _ = _
      rw [bG_nm, ofR, bndR]
      dsimp only [List.set]
      rw [mbB, evCs, evC, e5, bndR, bndR, after_N rfl]
      simp only [List.flatten_append, List.flatten_cons, List.flatten_nil, List.append_nil]
      rfl)
    (fE lv fk (L.filter fun t => !ch.contains t) F a b (some (nD m, false)) (some (eL ch, false)) e (some (eN [], true))) ⟨e, rfl⟩
  have s5 : evC (callF M.tab (n + 5)) (.for_ (.nm 9) .val [(.var 8)] mbB) (fE lv fk (L.filter fun t => !ch.contains t) F a b (some (nD m, false)) (some (eL ch, true)) e (some (eN [], true))) = ret (.nx ρ') := by
    have m1 : mutDs [eL ch] = true := rfl
    have dz : disown (varss [T.var 8]) (fE lv fk (L.filter fun t => !ch.contains t) F a b (some (nD m, false)) (some (eL ch, true)) e (some (eN [], true))) = fE lv fk (L.filter fun t => !ch.contains t) F a b (some (nD m, false)) (some (eL ch, false)) e (some (eN [], true)) := by
      rcases a with _ | ⟨a1, a2⟩ <;> rcases b with _ | ⟨b1, b2⟩ <;> rcases e with _ | ⟨e1, e2⟩ <;> simp [disown, vars, varss, fE]
    rw [evC]
    simp only [evs, ev, getE_zero, getE_succ, ofR, bndR, it_val, seq_L, afters, m1, if_true, dz]
    exact h1
  subst h2
  obtain ⟨u, eu, pu, au⟩ := bi_srt ch.flatten fn
  have s6 : evC (callF M.tab (n + 5)) (.app 3 (.bi .tup [(.bi .srt [(.var 10)])])) (fE lv fk (L.filter fun t => !ch.contains t) F a b (some (nD m, false)) (some (eL ch, false)) e' (some (eN ch.flatten, true))) = ret (.nx (fE lv fk ((L.filter fun t => !ch.contains t) ++ [u]) F a b (some (nD m, false)) (some (eL ch, false)) e' (some (eN ch.flatten, true)))) := by
    have zf : ((L.filter fun t => !ch.contains t).map eS).length < sizeLine := by
      rw [List.length_map]
      exact Nat.lt_of_le_of_lt (Nat.le_trans (List.length_filter_le _ _) lL) (by decide)
    rw [evC, own_L _ 3 (L.filter fun t => !ch.contains t) rfl, ofR, bndR, ev]
    simp only [evs, ev, getE_zero, getE_succ, ofR, bndR, eu, bi_tup, seq_N, Option.map_some]
    rw [show D.tup (u.map nD) = eS u from rfl, mut_S]
    simp only [zf, true_and, if_true]
    simp [eL, fE]
  have s7 : evC (callF M.tab (n + 5)) (.app 4 (.ix (.var 3) (.neg (.con (.int 1))))) (fE lv fk ((L.filter fun t => !ch.contains t) ++ [u]) F a b (some (nD m, false)) (some (eL ch, false)) e' (some (eN ch.flatten, true))) = ret (.nx (fE lv fk ((L.filter fun t => !ch.contains t) ++ [u]) (F ++ [u]) a b (some (nD m, false)) (some (eL ch, false)) e' (some (eN ch.flatten, true)))) := by
    have zf : (F.map eS).length < sizeLine := by
      rw [List.length_map]
      exact Nat.lt_of_le_of_lt lF (by decide)
    have ix : ixD (eL ((L.filter fun t => !ch.contains t) ++ [u])) (.int (-1)) = some (eS u) := by
      show L2.atI (((L.filter fun t => !ch.contains t) ++ [u]).map eS) (-1) = _
      rw [List.map_append]
      exact at_end _ _
    rw [evC, own_L _ 4 F rfl, ofR, bndR, ev]
    simp only [evs, ev, getE_zero, getE_succ, ofR, bndR, intD_int, ix]
    simp only [zf, mut_S, true_and, if_true]
    simp [eL, fE]
  rw [cs_nx s3, cs_nx s4, cs_nx s5, cs_nx s6, cs_nx s7, evCs]
  exact Runs.ret ⟨_, rfl, _, _, a, b, _, _, e', _, k.step cs cn c2 pu au, by simp, rfl⟩
theorem f__law_family (hl : lv.length ≤ 12) (nd : lv.Nodup) : Runs (Γ (n + 6) "_law_family" [.st, eN lv, .bl fk]) 200 fun d => ∃ L F : Fam, Lots lv L F ∧ F.length ≤ 12 ∧ d = eL F := by
  rw [Γ, call_code t__law_family rfl]
  show Runs (bnd (evCs (callF M.tab (n + 5)) [(.par 3 4 (.lc (.nm 5) .val [(.var 1)] none (.tup [(.var 5)])) (.lst [])), (.for_ (.nm 6) .val [(.var 1)] [(.iff (.cmp .Gt (.bi .len [(.var 3)]) (.con (.int 1))) fmB [])]), (.ret (.var 4))] [some (.st, false), some (eN lv, false), some (.bl fk, false), none, none, none, none, none, none, none, none]) outD) 200 _
  have n0 : (0 : Nat) ≤ sizeLine := by decide
  have s1 : evC (callF M.tab (n + 5)) (.par 3 4 (.lc (.nm 5) .val [(.var 1)] none (.tup [(.var 5)])) (.lst [])) [some (.st, false), some (eN lv, false), some (.bl fk, false), none, none, none, none, none, none, none, none] = ret (.nx (fE lv fk (lv.map fun x => [x]) [] none none none none none none)) := by
    rw [evC, ev_one (g := lv) (d := eN lv) (by show 5 < 11; decide) (by omega) (by rw [ev]; simp only [getE_zero, getE_succ, ofR]) (seq_N _), bndR, after_L rfl, ev, evs, bndR, List.length_nil, if_pos n0, bndR, show D.lst [] = eL [] from rfl, after_L rfl]
    rfl
  rw [cs_nx s1]
  let I : List Nat → Mp.Env → Prop := fun pre ρ => ∃ L F a b c d e f, Lots lv L F ∧ F.length ≤ pre.length ∧ ρ = fE lv fk L F a b c d e f
  have lp : Runs (loopC (fun d ρ => bnd (ofO (bindG (.nm 6) d ρ)) fun ρ' => evCs (callF M.tab (n + 5)) [(.iff (.cmp .Gt (.bi .len [(.var 3)]) (.con (.int 1))) fmB [])] ρ') (lv.map nD) (fE lv fk (lv.map fun x => [x]) [] none none none none none none)) 200 fun o => ∃ ρ', o = .nx ρ' ∧ I lv ρ' := by
    have := Runs.loop (h := nD) (f := fun d ρ => bnd (ofO (bindG (.nm 6) d ρ)) fun ρ' => evCs (callF M.tab (n + 5)) [(.iff (.cmp .Gt (.bi .len [(.var 3)]) (.con (.int 1))) fmB [])] ρ') (xs := lv) (I := I) (b := 14) ?_ (fE lv fk (lv.map fun x => [x]) [] none none none none none none) ⟨_, [], none, none, none, none, none, none, lots_start nd, Nat.le_refl 0, rfl⟩
    · exact Runs.mono this (by omega) fun _ z => z
    · rintro pre x post ep ρ ⟨L, F, a, b, c, d, e, f, k, lF, rfl⟩
      have lx := congrArg List.length ep
      rw [List.length_append, List.length_cons] at lx
      show Runs (bnd (ofO (bindG (.nm 6) (nD x) _)) _) 14 _
      rw [bG_nm, ofR, bndR]
      dsimp only [List.set]
      have et : tst (callF M.tab (n + 5)) (fE lv fk L F a (some (nD x, false)) c d e f) (.cmp .Gt (.bi .len [(.var 3)]) (.con (.int 1))) = ret (decide (1 < L.length)) := by
        have c1 : cmpD .Gt (.int L.length) (.int 1) = some (decide (1 < L.length)) := by
          rw [c_gt]
          congr 1
          exact decide_eq_decide.mpr ⟨fun h => by omega, fun h => by omega⟩
        rw [tst, ev]
        simp only [evs, ev, getE_zero, getE_succ, ofR, bndR, bi_len, len_L, c1]
      rw [evCs, evC]
      show Runs (bnd (bnd (tst (callF M.tab (n + 5)) (fE lv fk L F a (some (nD x, false)) c d e f) (.cmp .Gt (.bi .len [(.var 3)]) (.con (.int 1)))) _) _) 14 _
      rw [et, bndR]
      by_cases l2 : 1 < L.length
      · rw [decide_eq_true l2, if_pos rfl]
        refine Runs.bnd0 (fam_step n lv fk hl L F k (by omega) l2 a (some (nD x, false)) c d e f) ?_
        rintro o ⟨ρ', rfl, L', F', a', b', c', d', e', f', k', lF', rfl⟩
        dsimp only
        rw [evCs]
        exact Runs.ret ⟨_, rfl, L', F', a', b', c', d', e', f', k', by rw [lF', List.length_append, List.length_singleton]; omega, rfl⟩
      · rw [decide_eq_false l2, if_neg (by decide), evCs, bndR]
        exact Runs.ret ⟨_, rfl, L, F, a, some (nD x, false), c, d, e, f, k, by rw [List.length_append, List.length_singleton]; omega, rfl⟩
  have s2 : evC (callF M.tab (n + 5)) (.for_ (.nm 6) .val [(.var 1)] [(.iff (.cmp .Gt (.bi .len [(.var 3)]) (.con (.int 1))) fmB [])]) (fE lv fk (lv.map fun x => [x]) [] none none none none none none) = loopC (fun d ρ => bnd (ofO (bindG (.nm 6) d ρ)) fun ρ' => evCs (callF M.tab (n + 5)) [(.iff (.cmp .Gt (.bi .len [(.var 3)]) (.con (.int 1))) fmB [])] ρ') (lv.map nD) (fE lv fk (lv.map fun x => [x]) [] none none none none none none) := by
    have m1 : mutDs [eN lv] = true := rfl
    have dz : disown (varss [T.var 1]) (fE lv fk (lv.map fun x => [x]) [] none none none none none none) = fE lv fk (lv.map fun x => [x]) [] none none none none none none := rfl
    rw [evC]
    simp only [evs, ev, getE_zero, getE_succ, ofR, bndR, it_val, seq_N, afters, m1, if_true, dz]
  refine Runs.out (Runs.mono (Runs.cs (s2 ▸ lp) (k := 0) (P := fun o => ∃ d, (∃ L F : Fam, Lots lv L F ∧ F.length ≤ 12 ∧ d = eL F) ∧ o = Out.rt d) ?_) (Nat.le_refl _) fun _ z => z)
  rintro ρ' ⟨L, F, a, b, c, d, e, f, k, lF, rfl⟩
  refine Runs.rtl (Runs.of (a := eL F) ?_ ⟨L, F, k, by omega, rfl⟩)
  rw [ev]
  simp only [getE_zero, getE_succ, ofR, bndR]
end
/-- a family put in order -/
theorem fam_up {F : Fam} (h : ∀ a ∈ F, ∀ b ∈ F, Fit a b) (p : List Nat → Bool) : (canon (F.filter p)).Pairwise Fit :=
  List.pairwise_iff_getElem.mpr fun i j hi hj _ => h _ (List.mem_filter.mp (mem_canon.mp (List.getElem_mem hi))).1 _ (List.mem_filter.mp (mem_canon.mp (List.getElem_mem hj))).1
theorem fam_len {F : Fam} (h : F.length ≤ 12) (p : List Nat → Bool) : (canon (F.filter p)).length ≤ 30 := by
  have := len_canon (F.filter p)
  have := List.length_filter_le p F
  omega
theorem f__law_rooted (n c : Nat) (h3 : 3 ≤ c) (h12 : c ≤ 12) (fk : Bool) : Runs (Γ (n + 7) "_law_rooted" [.st, .int c, .bl fk]) 200 fun d => ∃ F : Fam, Clu c F ∧ d = eT c F := by
  rw [Γ, call_code t__law_rooted rfl]
  refine Runs.out (Runs.rtl ?_)
  have two : (2 : Nat) ≤ sizeLine := by decide
  have z : c ≤ sizeLine := Nat.le_trans h12 (by decide)
  show Runs (ev (callF M.tab (n + 6)) [some (.st, false), some (.int c, false), some (.bl fk, false), none] (.tup [(.var 1), (.call "_law_in_order" [(.lc (.nm 3) .val [(.call "_law_family" [(.var 0), (.rgc false [(.var 1)]), (.var 2)] [])] (some (.cmp .Lt (.bi .len [(.var 3)]) (.var 1))) (.var 3))] [])])) 200 _
  have e0 : ∀ r : Mp.M D, r = Γ (n + 6) "_law_family" [.st, eN (List.range c), .bl fk] → ev (callF M.tab (n + 6)) [some (.st, false), some (.int c, false), some (.bl fk, false), none] (.call "_law_family" [(.var 0), (.rgc false [(.var 1)]), (.var 2)] []) = r := by
    rintro r rfl
    rw [ev]
    simp only [evs, ev, getE_zero, getE_succ, ofR, bndR, permL, it_rng0 c (by omega), List.length_map, List.length_range, z, if_true, if_false, Bool.false_eq_true]
    rfl
  have r0 := f__law_family n (List.range c) fk (by simpa using h12) (List.nodup_range)
  -- what is walked first
  have key : ∀ s s' (F : Fam), ev (callF M.tab (n + 6)) [some (.st, false), some (.int c, false), some (.bl fk, false), none] (.call "_law_family" [(.var 0), (.rgc false [(.var 1)]), (.var 2)] []) s = .ok (eL F) s' → F.length ≤ 12 →
      ev (callF M.tab (n + 6)) [some (.st, false), some (.int c, false), some (.bl fk, false), none] (.tup [(.var 1), (.call "_law_in_order" [(.lc (.nm 3) .val [(.call "_law_family" [(.var 0), (.rgc false [(.var 1)]), (.var 2)] [])] (some (.cmp .Lt (.bi .len [(.var 3)]) (.var 1))) (.var 3))] [])]) s = .ok (eT c (canon (F.filter fun s => decide (s.length < c)))) s' := by
    intro s s' F e lF
    have lc : ev (callF M.tab (n + 6)) [some (.st, false), some (.int c, false), some (.bl fk, false), none] (.lc (.nm 3) .val [(.call "_law_family" [(.var 0), (.rgc false [(.var 1)]), (.var 2)] [])] (some (.cmp .Lt (.bi .len [(.var 3)]) (.var 1))) (.var 3)) s = .ok (eL (F.filter fun s => decide (s.length < c))) s' := by
      have pure := ev_lcF (G := callF M.tab (n + 6)) (ρ := [some (.st, false), some (.int c, false), some (.bl fk, false), none]) (i := 3) (t := .con (eL F)) (c := .cmp .Lt (.bi .len [(.var 3)]) (.var 1)) (F := F) (p := fun s => decide (s.length < c)) (d := eL F) (by show 3 < 4; decide) (by rw [ev]) (seq_L _) (by omega) fun s hs => by
        dsimp only [List.set]
        rw [tst, ev]
        simp only [evs, ev, getE_zero, getE_succ, ofR, bndR, bi_len, len_S, lt_nat]
      rw [ev, evs, evs] at pure ⊢
      rw [ev, bndR, bndR, bndR] at pure
      rw [bnd_at (a := [eL F]) (s' := s')]
      · rw [pure]
        rfl
      · rw [bnd_at e, bndR]
        rfl
    have fo := f__law_in_order (n + 5) (F.filter fun s => decide (s.length < c)) (eL _) (seq_L _) (by have := List.length_filter_le (fun s : List Nat => decide (s.length < c)) F; omega)
    unfold Γ at fo
    have ec : ev (callF M.tab (n + 6)) [some (.st, false), some (.int c, false), some (.bl fk, false), none] (.call "_law_in_order" [(.lc (.nm 3) .val [(.call "_law_family" [(.var 0), (.rgc false [(.var 1)]), (.var 2)] [])] (some (.cmp .Lt (.bi .len [(.var 3)]) (.var 1))) (.var 3))] []) s = .ok (eF (canon (F.filter fun s => decide (s.length < c)))) s' := by
      rw [ev, evs, evs, bnd_at (a := [eL (F.filter fun s => decide (s.length < c))]) (s' := s')]
      · rw [permL, ofR, bndR, fo]
        rfl
      · rw [bnd_at lc, bndR]
        rfl
    rw [ev, evs, evs, evs, ev, getE_succ, getE_zero, ofR, bndR, bnd_at (a := [.int c, eF (canon (F.filter fun s => decide (s.length < c)))]) (s' := s')]
    · rw [if_pos (by exact two)]
      rfl
    · rw [bnd_at (a := [eF (canon (F.filter fun s => decide (s.length < c)))]) (s' := s')]
      · rfl
      · rw [bnd_at ec, bndR]
        rfl
  intro s hs hb
  obtain ⟨a, s', e1, o1, l1, L, F, k, lF, rfl⟩ := r0 s hs hb
  refine ⟨_, s', key s s' F ((congrFun (e0 _ rfl) s).trans e1) lF, o1, l1, _, ⟨fun t ht => ?_, up_canon _, fam_up k.fit _, fam_len lF _⟩, rfl⟩
  obtain ⟨h1, h2⟩ := List.mem_filter.mp (mem_canon.mp ht)
  obtain ⟨f1, f2, f3⟩ := k.fas t h1
  exact ⟨⟨f1, fun x hx => by simpa using f3 x hx⟩, f2, by simpa using h2⟩
end Lf
end
section
namespace Lf
open PySem Mp
theorem f__law_tree (n c : Nat) (h3 : 3 ≤ c) (h12 : c ≤ 12) (fk : Bool) : Runs (Γ (n + 7) "_law_tree" [.st, .int c, .bl fk]) 200 fun d => ∃ F : Fam, Spl c F ∧ d = eT c F := by
  rw [Γ, call_code t__law_tree rfl]
  show Runs (bnd (evCs (callF M.tab (n + 6)) [(.asg (.nm 3) (.call "_law_family" [(.var 0), (.rgc false [(.con (.int 1)), (.var 1)]), (.var 2)] [])), (.ret (.tup [(.var 1), (.call "_law_in_order" [(.lc (.nm 4) .val [(.var 3)] (some (.cmp .Lt (.bi .len [(.var 4)]) (.bin .Sub (.var 1) (.con (.int 1))))) (.var 4))] [])]))] [some (.st, false), some (.int c, false), some (.bl fk, false), none, none]) outD) 200 _
  have two : (2 : Nat) ≤ sizeLine := by decide
  have z : c - 1 ≤ sizeLine := Nat.le_trans (by omega : c - 1 ≤ 12) (by decide)
  let lv := (List.range (c - 1)).map (· + 1)
  have ll : lv.length = c - 1 := by simp [lv]
  have ln : lv.Nodup := by
    refine List.pairwise_map.mpr (List.nodup_range.imp fun h e => h ?_)
    omega
  have e0 : ev (callF M.tab (n + 6)) [some (.st, false), some (.int c, false), some (.bl fk, false), none, none] (.call "_law_family" [(.var 0), (.rgc false [(.con (.int 1)), (.var 1)]), (.var 2)] []) = Γ (n + 6) "_law_family" [.st, eN lv, .bl fk] := by
    rw [ev]
    simp only [evs, ev, getE_zero, getE_succ, ofR, bndR, permL, it_rng1 c (by omega), List.length_map, List.length_range, z, if_true, if_false, Bool.false_eq_true]
    rfl
  have s1 : Runs (evC (callF M.tab (n + 6)) (.asg (.nm 3) (.call "_law_family" [(.var 0), (.rgc false [(.con (.int 1)), (.var 1)]), (.var 2)] [])) [some (.st, false), some (.int c, false), some (.bl fk, false), none, none]) 200 fun o => ∃ ρ', o = .nx ρ' ∧ ∃ L F : Fam, (Lots lv L F ∧ F.length ≤ 12) ∧ ρ' = [some (.st, false), some (.int c, false), some (.bl fk, false), some (eL F, false), none] := by
    refine Runs.mono (Runs.asg (Runs.of_eq e0 (f__law_family n lv fk (by omega) ln))) (Nat.le_refl _) ?_
    rintro o ⟨ρ', rfl, d, ⟨L, F, k, lF, rfl⟩, rfl⟩
    refine ⟨_, rfl, L, F, ⟨k, lF⟩, ?_⟩
    rfl
  refine Runs.out (Runs.mono (Runs.cs s1 (k := 0) (P := fun o => ∃ d, (∃ F : Fam, Spl c F ∧ d = eT c F) ∧ o = Out.rt d) ?_) (Nat.le_refl _) fun _ z => z)
  rintro ρ' ⟨L, F, ⟨k, lF⟩, rfl⟩
  refine Runs.rtl (Runs.of (a := eT c (canon (F.filter fun s => decide (s.length < c - 1)))) ?_ ⟨_, ⟨fun t ht => ?_, up_canon _, fam_up k.fit _, fam_len lF _⟩, rfl⟩)
  · have pure := ev_lcF (G := callF M.tab (n + 6)) (ρ := [some (.st, false), some (.int c, false), some (.bl fk, false), some (eL F, false), none]) (i := 4) (t := .var 3) (c := .cmp .Lt (.bi .len [(.var 4)]) (.bin .Sub (.var 1) (.con (.int 1)))) (F := F) (p := fun s => decide (s.length < c - 1)) (d := eL F) (by show 4 < 5; decide) (by rw [ev]; simp only [getE_zero, getE_succ, ofR]) (seq_L _) (by omega) fun s hs => by
      have e1 : (c : Int) - 1 = ((c - 1 : Nat) : Int) := by omega
      dsimp only [List.set]
      rw [tst, ev]
      simp only [evs, ev, getE_zero, getE_succ, ofR, bndR, bi_len, len_S, b_sub, e1, lt_nat]
    have fo := f__law_in_order (n + 5) (F.filter fun s => decide (s.length < c - 1)) (eL _) (seq_L _) (by have := List.length_filter_le (fun s : List Nat => decide (s.length < c - 1)) F; omega)
    unfold Γ at fo
    have ec : ev (callF M.tab (n + 6)) [some (.st, false), some (.int c, false), some (.bl fk, false), some (eL F, false), none] (.call "_law_in_order" [(.lc (.nm 4) .val [(.var 3)] (some (.cmp .Lt (.bi .len [(.var 4)]) (.bin .Sub (.var 1) (.con (.int 1))))) (.var 4))] []) = ret (eF (canon (F.filter fun s => decide (s.length < c - 1)))) := by
      rw [ev, evs, evs, pure, bndR, bndR, bndR, permL, ofR, bndR, fo]
    rw [ev, evs, evs, evs, ev, getE_succ, getE_zero, ofR, bndR, ec, bndR, bndR, bndR, bndR, if_pos (by exact two)]
    rfl
  · obtain ⟨h1, h2⟩ := List.mem_filter.mp (mem_canon.mp ht)
    obtain ⟨f1, f2, f3⟩ := k.fas t h1
    have mem : ∀ x ∈ t, 1 ≤ x ∧ x < c := fun x hx => by
      obtain ⟨y, hy, rfl⟩ := List.mem_map.mp (f3 x hx)
      rw [List.mem_range] at hy
      omega
    have h2 := of_decide_eq_true h2
    refine ⟨⟨f1, fun x hx => (mem x hx).2⟩, fun e => ?_, fun h => ?_, ?_⟩
    · rw [e] at f2
      simp at f2
    · have := (mem 0 h).1
      omega
    · unfold triv
      rw [decide_eq_false (by omega), decide_eq_false (by omega)]
      rfl
end Lf
end
section
/-! The plain law: splits and clusters of some leaves. -/
namespace Lf
open PySem Mp
theorem asc_ext : ∀ {a b : List Nat}, a.Pairwise (· < ·) → b.Pairwise (· < ·) → (∀ x, x ∈ a ↔ x ∈ b) → a = b := by
  intro a b ha hb h
  refine List.Perm.eq_of_pairwise (le := (· < ·)) (fun x y _ _ h1 h2 => absurd (Nat.lt_trans h1 h2) (Nat.lt_irrefl _)) ha hb ?_
  exact (List.perm_ext_iff_of_nodup (ha.imp fun z => Nat.ne_of_lt z) (hb.imp fun z => Nat.ne_of_lt z)).mpr h
theorem set_ext {c : Nat} {a b : List Nat} (ha : IsSet c a) (hb : IsSet c b) (h : ∀ x, x < c → (x ∈ a ↔ x ∈ b)) : a = b :=
  asc_ext ha.1 hb.1 fun x => ⟨fun z => (h x (ha.2 x z)).mp z, fun z => (h x (hb.2 x z)).mpr z⟩
theorem set_range (c : Nat) (p : Nat → Bool) : IsSet c ((List.range c).filter p) := ⟨List.pairwise_lt_range.filter p, fun x hx => by
  have := (List.mem_filter.mp hx).1
  simpa using this⟩
theorem set_full (c : Nat) : IsSet c (List.range c) := ⟨List.pairwise_lt_range, fun x hx => by simpa using hx⟩
theorem set_cut (g s : List Nat) : IsSet g.length (cut g s) := set_range _ _
theorem mem_cut {g s : List Nat} {i : Nat} : i ∈ cut g s ↔ i < g.length ∧ g.getD i 0 ∈ s := by
  unfold cut
  rw [List.mem_filter, List.mem_range, List.contains_iff_mem]
theorem set_side {c : Nat} {s : List Nat} (h : IsSet c s) : IsSet c (sideOf c s) := by
  unfold sideOf
  split
  · exact set_range _ _
  · exact h
theorem mem_side {c x : Nat} {s : List Nat} (h : IsSet c s) (hx : x < c) : x ∈ sideOf c s ↔ ¬(x ∈ s ↔ 0 ∈ s) := by
  unfold sideOf
  by_cases z : 0 ∈ s
  · have : s.contains 0 = true := by simpa using z
    rw [if_pos this, List.mem_filter, List.mem_range]
    simp [z, hx]
  · have : ¬ s.contains 0 = true := by simpa using z
    rw [if_neg this]
    simp [z]
theorem no0_side {c : Nat} {s : List Nat} (h : IsSet c s) : 0 ∉ sideOf c s := by
  intro z
  have := (set_side h).2 0 z
  exact (mem_side h this).mp z Iff.rfl
/-- the leaves at some places are not below -/
theorem get_lt {c : Nat} {g : List Nat} (hg : IsSet c g) {i : Nat} (hi : i < g.length) : g.getD i 0 < c := by
  rw [List.getD_eq_getElem?_getD,
                                                                                                    List.getElem?_eq_getElem hi]
  exact hg.2 _ (List.getElem_mem hi)
theorem get_mono {c : Nat} {g : List Nat} (hg : IsSet c g) {i j : Nat} (hij : i < j) (hj : j < g.length) : g.getD i 0 < g.getD j 0 := by
  rw [List.getD_eq_getElem?_getD, List.getD_eq_getElem?_getD, List.getElem?_eq_getElem hj, List.getElem?_eq_getElem (by omega)]
  exact List.pairwise_iff_getElem.mp hg.1 i j (by omega) hj hij
theorem side_cut_side {c : Nat} {g t : List Nat} (hg : IsSet c g) (ht : IsSet c t) : sideOf g.length (cut g (sideOf c t)) = sideOf g.length (cut g t) := by
  refine set_ext (set_side (set_cut _ _)) (set_side (set_cut _ _)) fun x hx => ?_
  have h0 : 0 < g.length := by omega
  rw [mem_side (set_cut _ _) hx, mem_side (set_cut _ _) hx, mem_cut, mem_cut, mem_cut, mem_cut, mem_side ht (get_lt hg hx), mem_side ht (get_lt hg h0)]
  by_cases a : g.getD x 0 ∈ t <;> by_cases b : g.getD 0 0 ∈ t <;> by_cases z : 0 ∈ t <;> simp only [a, b, z, hx, h0] <;> simp
/-- some of some -/
def pick (g l : List Nat) : List Nat := l.map fun i => g.getD i 0
theorem cut_cut {g l t : List Nat} (hl : IsSet g.length l) : cut l (cut g t) = cut (pick g l) t := by
  have e : (pick g l).length = l.length := by simp [pick]
  refine set_ext (set_cut _ _) (e ▸ set_cut _ _) fun x hx => ?_
  have ex : (pick g l).getD x 0 = g.getD (l.getD x 0) 0 := by
    simp [pick, List.getD_eq_getElem?_getD, List.getElem?_eq_getElem hx]
  rw [mem_cut, mem_cut, mem_cut, e, ex]
  have := get_lt hl hx
  simp only [this, hx, true_and]
theorem set_pick {c : Nat} {g l : List Nat} (hg : IsSet c g) (hl : IsSet g.length l) : IsSet c (pick g l) := by
  refine ⟨List.pairwise_map.mpr ?_, fun x hx => ?_⟩
  · refine List.pairwise_iff_getElem.mpr fun i j hi hj hij => ?_
    exact get_mono hg (List.pairwise_iff_getElem.mp hl.1 i j hi hj hij) (hl.2 _ (List.getElem_mem hj))
  · obtain ⟨i, hi, rfl⟩ := List.mem_map.mp hx
    exact get_lt hg (hl.2 i hi)
theorem xo {A B D : Prop} (h1 : ¬(A ↔ B)) (h2 : ¬(B ↔ D)) : A ↔ D := by
  by_cases a : A <;> by_cases b : B <;> by_cases d : D <;> simp [a, b, d] at h1 h2 ⊢
/-- two within, two without -/
def Two (n : Nat) (P : Nat → Prop) : Prop := ∃ x y, x < y ∧ y < n ∧ P x ∧ P y
theorem two_len {n : Nat} {s : List Nat} (h : IsSet n s) : 2 ≤ s.length ↔ Two n (· ∈ s) := by
  constructor
  · intro k
    match s, k, h with
    | x :: y :: r, _, h => exact ⟨x, y, (List.pairwise_cons.mp h.1).1 y (by simp), h.2 y (by simp), by simp, by simp⟩
  · rintro ⟨x, y, l, _, hx, hy⟩
    have := nodup_len (a := [x, y]) (b := s) (by simp; omega) (by simp [hx, hy])
    simpa using this
theorem compl_len {n : Nat} {s : List Nat} (h : IsSet n s) : ((List.range n).filter fun x => !s.contains x).length + s.length = n := by
  have p : (((List.range n).filter fun x => !s.contains x) ++ s).Perm (List.range n) := by
    refine (List.perm_ext_iff_of_nodup ?_ List.nodup_range).mpr fun x => ?_
    · rw [List.nodup_append]
      refine ⟨List.nodup_range.filter _, h.1.imp fun z => Nat.ne_of_lt z, fun a ha b hb e => ?_⟩
      have := (List.mem_filter.mp ha).2
      rw [e] at this
      simp [hb] at this
    · rw [List.mem_append, List.mem_filter, List.mem_range]
      have := h.2 x
      by_cases k : x ∈ s <;> simp [k]
      exact this k
  have := p.length_eq
  rwa [List.length_append, List.length_range] at this
theorem two_out {n : Nat} {s : List Nat} (h : IsSet n s) : s.length + 2 ≤ n ↔ Two n (· ∉ s) := by
  have e := compl_len h
  have k := two_len (set_range n fun x => !s.contains x)
  have : Two n (· ∈ (List.range n).filter fun x => !s.contains x) ↔ Two n (· ∉ s) := by
    constructor
    · rintro ⟨x, y, l, ly, hx, hy⟩
      exact ⟨x, y, l, ly, by simpa using (List.mem_filter.mp hx).2, by simpa using (List.mem_filter.mp hy).2⟩
    · rintro ⟨x, y, l, ly, hx, hy⟩
      exact ⟨x, y, l, ly, List.mem_filter.mpr ⟨by simp; omega, by simpa using hx⟩, List.mem_filter.mpr ⟨by simpa using ly, by simpa using hy⟩⟩
  rw [← this, ← k]
  omega
/-- an inner one -/
def Nt (m : Nat) (s : List Nat) : Prop := 2 ≤ s.length ∧ s.length + 2 ≤ m
theorem nt_iff {m : Nat} {s : List Nat} (h : IsSet m s) : Nt m s ↔ Two m (· ∈ s) ∧ Two m (· ∉ s) := by
  unfold Nt
  rw [two_len h, two_out h]
/-- what is inner among some is inner among all -/
theorem nt_cut {c : Nat} {g t : List Nat} (hg : IsSet c g) (ht : IsSet c t) (k : Nt g.length (sideOf g.length (cut g t))) : Nt c (sideOf c t) := by
  rw [nt_iff (set_side (set_cut _ _))] at k
  rw [nt_iff (set_side ht)]
  obtain ⟨⟨x, y, xy, hy, mx, my⟩, ⟨u, v, uv, hv, mu, mv⟩⟩ := k
  have h0 : 0 < g.length := by omega
  have st : ∀ i, i < g.length → (i ∈ sideOf g.length (cut g t) ↔ ¬(g.getD i 0 ∈ t ↔ g.getD 0 0 ∈ t)) := fun i hi => by
    rw [mem_side (set_cut _ _) hi, mem_cut, mem_cut]
    simp [hi, h0]
  have sc : ∀ i, i < g.length → (g.getD i 0 ∈ sideOf c t ↔ ¬(g.getD i 0 ∈ t ↔ 0 ∈ t)) := fun i hi => mem_side ht (get_lt hg hi)
  rw [st x (by omega)] at mx
  rw [st y hy] at my
  rw [st u (by omega)] at mu
  rw [st v hv] at mv
  have p1 : Two c (fun z => z = g.getD x 0 ∨ z = g.getD y 0) := ⟨_, _, get_mono hg xy hy, get_lt hg hy, .inl rfl, .inr rfl⟩
  have p2 : Two c (fun z => z = g.getD u 0 ∨ z = g.getD v 0) := ⟨_, _, get_mono hg uv hv, get_lt hg hv, .inl rfl, .inr rfl⟩
  have s1 := sc x (by omega)
  have s2 := sc y hy
  have s3 := sc u (by omega)
  have s4 := sc v hv
  have imp : ∀ {P Q : Nat → Prop}, (∀ z, P z → Q z) → Two c P → Two c Q := fun h ⟨a, b, h1, h2, h3, h4⟩ => ⟨a, b, h1, h2, h _ h3, h _ h4⟩
  by_cases z : (g.getD 0 0 ∈ t ↔ 0 ∈ t)
  · refine ⟨imp ?_ p1, imp ?_ p2⟩
    · rintro w (rfl | rfl)
      · rw [s1]; rwa [z] at mx
      · rw [s2]; rwa [z] at my
    · rintro w (rfl | rfl)
      · rw [s3]; rwa [z] at mu
      · rw [s4]; rwa [z] at mv
  · refine ⟨imp ?_ p2, imp ?_ p1⟩
    · rintro w (rfl | rfl)
      · rw [s3]
        intro k
        exact mu fun k2 => z (k2.symm.trans k)
      · rw [s4]
        intro k
        exact mv fun k2 => z (k2.symm.trans k)
    · rintro w (rfl | rfl)
      · rw [s1]
        exact fun k => k (xo mx z)
      · rw [s2]
        exact fun k => k (xo my z)
end Lf
end
section
namespace Lf
open PySem Mp
theorem getD_lt {g : List Nat} {i : Nat} (h : i < g.length) : g.getD i 0 = g[i] := by
  rw [List.getD_eq_getElem?_getD, List.getElem?_eq_getElem h]
  rfl
theorem renum_cut {c : Nat} {g s : List Nat} (hg : IsSet c g) (hs : IsSet c s) : renum g s = cut g s := by
  have nd : g.Nodup := hg.1.imp fun z => Nat.ne_of_lt z
  refine asc_ext ?_ (set_cut g s).1 fun x => ?_
  · unfold renum
    refine List.pairwise_map.mpr ((hs.1.filter _).imp_of_mem fun {a b} ha hb hab => ?_)
    have ma : a ∈ g := by simpa using (List.mem_filter.mp ha).2
    have mb : b ∈ g := by simpa using (List.mem_filter.mp hb).2
    have la := List.idxOf_lt_length_of_mem ma
    have lb := List.idxOf_lt_length_of_mem mb
    rcases Nat.lt_trichotomy (g.idxOf a) (g.idxOf b) with h | h | h
    · exact h
    · have e1 := List.getElem_idxOf la
      have e2 := List.getElem_idxOf lb
      have : a = b := by
        rw [← e1, ← e2]
        congr 1
      omega
    · have := List.pairwise_iff_getElem.mp hg.1 _ _ lb la h
      rw [List.getElem_idxOf la, List.getElem_idxOf lb] at this
      omega
  · rw [mem_cut]
    unfold renum
    rw [List.mem_map]
    constructor
    · rintro ⟨y, hy, rfl⟩
      obtain ⟨h1, h2⟩ := List.mem_filter.mp hy
      have my : y ∈ g := by simpa using h2
      have ly := List.idxOf_lt_length_of_mem my
      exact ⟨ly, by rw [getD_lt ly, List.getElem_idxOf ly]; exact h1⟩
    · rintro ⟨lx, hx⟩
      rw [getD_lt lx] at hx
      exact ⟨g[x], List.mem_filter.mpr ⟨hx, by simp⟩, nd.idxOf_getElem x lx⟩
theorem canon_ext {A B : Fam} (h : ∀ s, s ∈ A ↔ s ∈ B) : canon A = canon B := canon_same h
theorem side_nil {m : Nat} {k : List Nat} (h : IsSet m k) (k0 : 0 < k.length) (k1 : k.length < m) : sideOf m k ≠ [] := by
  intro e
  obtain ⟨x, hx⟩ := List.exists_mem_of_ne_nil k (List.length_pos_iff.mp k0)
  have all : ∀ y, y < m → (y ∈ k ↔ 0 ∈ k) := fun y hy => by
    have := mem_side h hy
    rw [e] at this
    simpa using this
  have z0 : 0 ∈ k := (all x (h.2 x hx)).mp hx
  have : (List.range m).length ≤ k.length := nodup_len List.nodup_range fun y hy => (all y (by simpa using hy)).mpr z0
  rw [List.length_range] at this
  omega
theorem side_le {m : Nat} {k : List Nat} (h : IsSet m k) (h1 : 1 ≤ m) : (sideOf m k).length + 1 ≤ m := by
  have hs := set_side h
  have := nodup_len (a := 0 :: sideOf m k) (b := List.range m) (List.nodup_cons.mpr ⟨no0_side h, hs.1.imp fun z => Nat.ne_of_lt z⟩) fun x hx => by
    rcases List.mem_cons.mp hx
                                                                                                    with rfl | hx
    · simpa [Nat.pos_iff_ne_zero] using Nat.ne_of_gt h1
    · simpa using hs.2 x hx
  simpa using this
theorem nt_triv {m : Nat} {k : List Nat} (h : IsSet m k) (h1 : 1 ≤ m) (ne : sideOf m k ≠ []) : triv m (sideOf m k) = false ↔ Nt m (sideOf m k) := by
  have l1 := side_le h h1
  have l0 := List.length_pos_iff.mpr ne
  unfold triv Nt
  rw [Bool.or_eq_false_iff, decide_eq_false_iff_not, decide_eq_false_iff_not]
  omega
theorem nt_ne {m : Nat} {s : List Nat} (h : Nt m s) : s ≠ [] := by
  intro e
  have := h.1
  rw [e] at this
  simp at this
theorem nt_prop {m : Nat} {k : List Nat} (h : IsSet m k) (n : Nt m (sideOf m k)) : 0 < k.length ∧ k.length < m := by
  have n2 := (nt_iff (set_side h)).mp n
  obtain ⟨⟨x, y, xy, hy, mx, my⟩, _⟩ := n2
  rw [mem_side h (by omega)] at mx
  have hl := asc_len h
  refine ⟨?_, ?_⟩
  · rcases Nat.eq_zero_or_pos k.length with e | e
    · have := List.eq_nil_of_length_eq_zero e
      rw [this] at mx
      simp at mx
    · exact e
  · rcases Nat.lt_or_ge k.length m with e | e
    · exact e
    · have full : ∀ z, z < m → z ∈ k := fun z hz => by
        refine Decidable.byContradiction fun nz => ?_
        have := nodup_len (a := z :: k) (b := List.range m) (List.nodup_cons.mpr ⟨nz, h.1.imp fun z => Nat.ne_of_lt z⟩) fun w hw => by
          rcases List.mem_cons.mp hw with rfl | hw
          · simpa using hz
          · simpa using h.2 w hw
        simp at this
        omega
      exact absurd (iff_of_true (full x (by omega)) (full 0 (by omega))) mx
/-- what is inner on one side is so on the other -/
theorem nt_side {m : Nat} {k : List Nat} (h : IsSet m k) (n : Nt m (sideOf m k)) : Nt m k := by
  rw [nt_iff (set_side h)] at n
  rw [nt_iff h]
  obtain ⟨⟨x, y, xy, hy, mx, my⟩, ⟨u, v, uv, hv, mu, mv⟩⟩ := n
  rw [mem_side h (by omega)] at mx mu
  rw [mem_side h (by omega)] at my mv
  by_cases z : 0 ∈ k
  · exact ⟨⟨u, v, uv, hv, by grind, by grind⟩, ⟨x, y, xy, hy, by grind, by grind⟩⟩
  · exact ⟨⟨x, y, xy, hy, by grind, by grind⟩, ⟨u, v, uv, hv, by grind, by grind⟩⟩
theorem up_rs (g : List Nat) (F : Fam) : Up (rs g F) := up_canon _
theorem up_rr (g : List Nat) (F : Fam) : Up (rr g F) := up_canon _
theorem up_us (c : Nat) (F : Fam) : Up (us c F) := up_canon _
theorem up_al (b : Bool) (g : List Nat) (F : Fam) : Up (alone b g F) := by
  unfold alone
  split <;> exact up_canon _
section
variable {c : Nat} {g : List Nat} {F : Fam}
theorem mem_us {m : Nat} {xs : Fam} {s : List Nat} : s ∈ us m xs ↔ (∃ t ∈ xs, sideOf m t = s) ∧ triv m s = false := by
  unfold us
  rw [mem_canon, List.mem_filter, List.mem_map]
  simp
theorem mem_rs (hg : IsSet c g) (hF : ∀ t ∈ F, IsSet c t) (g1 : 1 ≤ g.length) {s : List Nat} : s ∈ rs g F ↔ ∃ t ∈ F, sideOf g.length (cut g t) = s ∧ Nt g.length s := by
  unfold rs cuts
  rw [mem_us]
  constructor
  · rintro ⟨⟨k, hk, rfl⟩, tr⟩
    obtain ⟨h1, h2⟩ := List.mem_filter.mp hk
    obtain ⟨t, ht, rfl⟩ := List.mem_map.mp h1
    rw [renum_cut hg (hF t ht)] at h2 tr ⊢
    rw [Bool.and_eq_true, decide_eq_true_iff, decide_eq_true_iff] at h2
    exact ⟨t, ht, rfl, (nt_triv (set_cut g t) g1 (side_nil (set_cut g t) h2.1 h2.2)).mp tr⟩
  · rintro ⟨t, ht, rfl, n⟩
    have p := nt_prop (set_cut g t) n
    refine ⟨⟨cut g t, List.mem_filter.mpr ⟨List.mem_map.mpr ⟨t, ht, renum_cut hg (hF t ht)⟩, by simp [p]⟩, rfl⟩, (nt_triv (set_cut g t) g1 (nt_ne n)).mpr n⟩
theorem mem_rr (hg : IsSet c g) (hF : ∀ t ∈ F, IsSet c t) {s : List Nat} : s ∈ rr g F ↔ ∃ t ∈ F, cut g t = s ∧ 2 ≤ s.length ∧ s.length < g.length := by
  unfold rr cuts
  rw [mem_canon, List.mem_filter, List.mem_map, Bool.and_eq_true, decide_eq_true_iff, decide_eq_true_iff]
  constructor
  · rintro ⟨⟨t, ht, rfl⟩, h1, h2⟩
    exact ⟨t, ht, (renum_cut hg (hF t ht)).symm, h1, h2⟩
  · rintro ⟨t, ht, rfl, h1, h2⟩
    exact ⟨⟨t, ht, renum_cut hg (hF t ht)⟩, h1, h2⟩
theorem rs_ne (hg : IsSet c g) (hF : ∀ t ∈ F, IsSet c t) : ∀ s ∈ ((((cuts g F).filter fun s => decide (0 < s.length) && decide (s.length < g.length)).map (sideOf g.length)).filter fun s => !triv g.length s), s ≠ [] := by
  intro s hs
  obtain ⟨k, hk, rfl⟩ := List.mem_map.mp (List.mem_filter.mp hs).1
  obtain ⟨h1, h2⟩ := List.mem_filter.mp hk
  obtain ⟨t, ht, rfl⟩ := List.mem_map.mp h1
  rw [renum_cut hg (hF t ht)] at h2 ⊢
  rw [Bool.and_eq_true, decide_eq_true_iff, decide_eq_true_iff] at h2
  exact side_nil (set_cut g t) h2.1 h2.2
theorem us_ne (h : Clu c F) : ∀ s ∈ (F.map (sideOf c)).filter fun s => !triv c s, s ≠ [] := by
  intro s hs
  obtain ⟨t, ht, rfl⟩ := List.mem_map.mp (List.mem_filter.mp hs).1
  have := h.is t ht
  exact side_nil this.set (by have := this.lo; omega) this.hi
theorem mem_usC (h : Clu c F) {s : List Nat} : s ∈ us c F ↔ ∃ t ∈ F, sideOf c t = s ∧ Nt c s := by
  rw [mem_us]
  constructor
  · rintro ⟨⟨t, ht, rfl⟩, tr⟩
    have := h.is t ht
    exact ⟨t, ht, rfl, (nt_triv this.set (by have h1 := this.lo; have h2 := this.hi; omega) (side_nil this.set (by have := this.lo; omega) this.hi)).mp tr⟩
  · rintro ⟨t, ht, rfl, n⟩
    have := h.is t ht
    exact ⟨⟨t, ht, rfl⟩, (nt_triv this.set (by have h1 := this.lo; have h2 := this.hi; omega) (nt_ne n)).mpr n⟩
/-- by the law -/
theorem alone_s (hg : IsSet c g) (hF : ∀ t ∈ F, IsSet c t) (g1 : 1 ≤ g.length) : rs g F = alone false g F := by
  refine (up_rs _ _).unique (up_al _ _ _) fun s => ?_
  rw [mem_rs hg hF g1, show s ∈ alone false g F ↔ _ from mem_canon, List.mem_filter, List.mem_map, Bool.and_eq_true, decide_eq_true_iff, decide_eq_true_iff]
  constructor
  · rintro ⟨t, ht, rfl, n⟩
    have p := nt_prop (set_cut g t) n
    have n1 := n.1
    have n2 := n.2
    exact ⟨⟨cut g t, List.mem_filter.mpr ⟨List.mem_map.mpr ⟨t, ht, rfl⟩, by simp [prop, p]⟩, rfl⟩, by omega, by omega⟩
  · rintro ⟨⟨k, hk, rfl⟩, h1, h2⟩
    obtain ⟨t, ht, rfl⟩ := List.mem_map.mp (List.mem_filter.mp hk).1
    exact ⟨t, ht, rfl, by unfold Nt; omega⟩
theorem alone_r (hg : IsSet c g) (hF : ∀ t ∈ F, IsSet c t) : rr g F = alone true g F := by
  refine (up_rr _ _).unique (up_al _ _ _) fun s => ?_
  rw [mem_rr hg hF, show s ∈ alone true g F ↔ _ from mem_canon, List.mem_filter, List.mem_filter, List.mem_map, Bool.and_eq_true, decide_eq_true_iff, decide_eq_true_iff]
  constructor
  · rintro ⟨t, ht, rfl, h1, h2⟩
    exact ⟨⟨⟨t, ht, rfl⟩, by unfold prop; rw [decide_eq_true (by omega : 0 < _), decide_eq_true h2]; rfl⟩, by omega, h2⟩
  · rintro ⟨⟨⟨t, ht, rfl⟩, _⟩, h1, h2⟩
    exact ⟨t, ht, rfl, by omega, h2⟩
/-- twice -/
theorem rs_rs {l : List Nat} (hg : IsSet c g) (hF : ∀ t ∈ F, IsSet c t) (hl : IsSet g.length l) (l1 : 1 ≤ l.length) : rs l (rs g F) = rs (pick g l) F := by
  have ll := asc_len hl
  have e : (pick g l).length = l.length := by simp [pick]
  refine (up_rs _ _).unique (up_rs _ _) fun s => ?_
  have hR : ∀ t ∈ rs g F, IsSet g.length t := fun t ht => by
    obtain ⟨z, _, rfl, _⟩ := (mem_rs hg hF (by omega)).mp ht
    exact set_side (set_cut _ _)
  rw [mem_rs hl hR l1, mem_rs (set_pick hg hl) hF (by omega), e]
  constructor
  · rintro ⟨t, ht, rfl, n⟩
    obtain ⟨z, hz, rfl, _⟩ := (mem_rs hg hF (by omega)).mp ht
    rw [side_cut_side hl (set_cut _ _), cut_cut hl] at n ⊢
    exact ⟨z, hz, rfl, n⟩
  · rintro ⟨z, hz, rfl, n⟩
    have n' := n
    rw [← cut_cut hl] at n'
    have n2 := nt_cut hl (set_cut _ _) n'
    exact ⟨sideOf g.length (cut g z), (mem_rs hg hF (by omega)).mpr ⟨z, hz, rfl, n2⟩, by rw [side_cut_side hl (set_cut _ _), cut_cut hl], n⟩
theorem cut_le {m : Nat} {l u : List Nat} (hl : IsSet m l) (hu : IsSet m u) : (cut l u).length ≤ u.length ∧ ((cut l u).length < l.length → u.length < m) := by
  constructor
  · have : ((cut l u).map fun i => l.getD i 0).length ≤ u.length := by
      refine nodup_len ?_ fun x hx => ?_
      · exact ((set_pick hl (set_cut l u)).1).imp fun z => Nat.ne_of_lt z
      · obtain ⟨i, hi, rfl⟩ := List.mem_map.mp hx
        exact (mem_cut.mp hi).2
    simpa using this
  · intro h
    refine Decidable.byContradiction fun k => ?_
    have full : ∀ z, z < m → z ∈ u := fun z hz => by
      refine Decidable.byContradiction fun nz => ?_
      have := nodup_len (a := z :: u) (b := List.range m) (List.nodup_cons.mpr ⟨nz, hu.1.imp fun z => Nat.ne_of_lt z⟩) fun w hw => by
        rcases List.mem_cons.mp hw with rfl | hw
        · simpa using hz
        · simpa using hu.2 w hw
      simp at this
      omega
    have e : cut l u = List.range l.length := set_ext (set_cut _ _) (set_full _) fun x hx => by
      rw [mem_cut]
      simp only [hx, true_and, List.mem_range, iff_true]
      exact full _ (get_lt hl hx)
    rw [e, List.length_range] at h
    omega
theorem rr_rr {l : List Nat} (hg : IsSet c g) (hF : ∀ t ∈ F, IsSet c t) (hl : IsSet g.length l) : rr l (rr g F) = rr (pick g l) F := by
  have e : (pick g l).length = l.length := by simp [pick]
  refine (up_rr _ _).unique (up_rr _ _) fun s => ?_
  have hR : ∀ t ∈ rr g F, IsSet g.length t := fun t ht => by
    obtain ⟨z, _, rfl, _⟩ := (mem_rr hg hF).mp ht
    exact set_cut _ _
  rw [mem_rr hl hR, mem_rr (set_pick hg hl) hF, e]
  constructor
  · rintro ⟨t, ht, rfl, n⟩
    obtain ⟨z, hz, rfl, _⟩ := (mem_rr hg hF).mp ht
    rw [cut_cut hl] at n ⊢
    exact ⟨z, hz, rfl, n⟩
  · rintro ⟨z, hz, rfl, n1, n2⟩
    rw [← cut_cut hl] at n1 n2 ⊢
    have := cut_le hl (set_cut g z)
    exact ⟨cut g z, (mem_rr hg hF).mpr ⟨z, hz, rfl, by omega, this.2 n2⟩, rfl, n1, n2⟩
theorem us_rr (hg : IsSet c g) (h : Clu c F) (hr : Clu g.length (rr g F)) (g1 : 1 ≤ g.length) : us g.length (rr g F) = rs g (us c F) := by
  have hF : ∀ t ∈ F, IsSet c t := fun t ht => (h.is t ht).set
  refine (up_us _ _).unique (up_rs _ _) fun s => ?_
  have hR : ∀ t ∈ us c F, IsSet c t := fun t ht => by
    obtain ⟨z, hz, rfl, _⟩ := (mem_usC h).mp ht
    exact set_side (hF z hz)
  rw [mem_usC hr, mem_rs hg hR g1]
  constructor
  · rintro ⟨t, ht, rfl, n⟩
    obtain ⟨z, hz, rfl, _⟩ := (mem_rr hg hF).mp ht
    have n2 := nt_cut hg (hF z hz) n
    exact ⟨sideOf c z, (mem_usC h).mpr ⟨z, hz, rfl, n2⟩, side_cut_side hg (hF z hz), n⟩
  · rintro ⟨t, ht, rfl, n⟩
    obtain ⟨z, hz, rfl, _⟩ := (mem_usC h).mp ht
    rw [side_cut_side hg (hF z hz)] at n ⊢
    have n2 := nt_side (set_cut _ _) n
    exact ⟨cut g z, (mem_rr hg hF).mpr ⟨z, hz, rfl, n2.1, by have := n2.2; omega⟩, rfl, n⟩
end
end Lf
end
section
namespace Lf
open PySem Mp
theorem fit_all {F : Fam} (h : F.Pairwise Fit) {a b : List Nat} (ha : a ∈ F) (hb : b ∈ F) : Fit a b := by
  obtain ⟨i, hi, rfl⟩ := List.getElem_of_mem ha
  obtain ⟨j, hj, rfl⟩ :=
                                                                                                    List.getElem_of_mem hb
  rcases Nat.lt_trichotomy i j with k | rfl | k
  · exact List.pairwise_iff_getElem.mp h i j hi hj k
  · exact Fit.refl _
  · exact (List.pairwise_iff_getElem.mp h j i hj hi k).symm
theorem fit_pw {F : Fam} (h : ∀ a ∈ F, ∀ b ∈ F, Fit a b) : F.Pairwise Fit := List.pairwise_iff_getElem.mpr fun i j hi hj _ => h _ (List.getElem_mem hi) _ (List.getElem_mem hj)
/-- sides fit by colours -/
theorem fit_col {m : Nat} {a b : List Nat} (ha : IsSet m a) (hb : IsSet m b) (h : Fit a b) : Fit (sideOf m a) (sideOf m b) := by
  have sa := set_side ha
  have sb := set_side hb
  have ma : ∀ x, x ∈ sideOf m a ↔ x < m ∧ ¬(x ∈ a ↔ 0 ∈ a) := fun x => ⟨fun k => ⟨sa.2 x k, (mem_side ha (sa.2 x k)).mp k⟩, fun k => (mem_side ha k.1).mpr k.2⟩
  have mb : ∀ x, x ∈ sideOf m b ↔ x < m ∧ ¬(x ∈ b ↔ 0 ∈ b) := fun x => ⟨fun k => ⟨sb.2 x k, (mem_side hb (sb.2 x k)).mp k⟩, fun k => (mem_side hb k.1).mpr k.2⟩
  unfold Fit at h ⊢
  simp only [ma, mb]
  by_cases za : 0 ∈ a <;> by_cases zb : 0 ∈ b
  · rcases h with h | h | h
    · exact absurd zb (h 0 za)
    · exact .inr (.inr fun x hx => by grind)
    · exact .inr (.inl fun x hx => by grind)
  · rcases h with h | h | h
    · exact .inr (.inr fun x hx => by grind)
    · exact absurd (h 0 za) zb
    · exact .inl fun x hx => by grind
  · rcases h with h | h | h
    · exact .inr (.inl fun x hx => by grind)
    · exact .inl fun x hx => by grind
    · exact absurd (h 0 zb) za
  · rcases h with h | h | h
    · exact .inl fun x hx => by grind
    · exact .inr (.inl fun x hx => by grind)
    · exact .inr (.inr fun x hx => by grind)
theorem fit_cut {g a b : List Nat} (h : Fit a b) : Fit (cut g a) (cut g b) := by
  rcases h with h | h | h
  · exact .inl fun x hx k => h _ (mem_cut.mp hx).2 (mem_cut.mp k).2
  · exact .inr (.inl fun x hx => mem_cut.mpr ⟨(mem_cut.mp hx).1, h _ (mem_cut.mp hx).2⟩)
  · exact .inr (.inr fun x hx => mem_cut.mpr ⟨(mem_cut.mp hx).1, h _ (mem_cut.mp hx).2⟩)
section
variable {c : Nat} {g : List Nat} {F : Fam}
theorem ins_of {m : Nat} {k : List Nat} (h : IsSet m k) (h1 : 1 ≤ m) (n : Nt m (sideOf m k)) : InS m (sideOf m k) := ⟨set_side h, nt_ne n, no0_side h, (nt_triv h h1 (nt_ne n)).mpr n⟩
theorem rs_few (g : List Nat) (F : Fam) : (rs g F).length ≤ F.length := by
  unfold rs us
  exact Nat.le_trans (len_canon _) (Nat.le_trans (us_len _ _) (cuts_len g F _))
theorem rr_few (g : List Nat) (F : Fam) : (rr g F).length ≤ F.length := by
  unfold rr
  exact Nat.le_trans (len_canon _) (cuts_len g F _)
theorem us_few (c : Nat) (F : Fam) : (us c F).length ≤ F.length := by
  unfold us
  exact Nat.le_trans (len_canon _) (us_len _ _)
theorem spl_rs (h : Spl c F) (hg : IsSet c g) (g1 : 1 ≤ g.length) : Spl g.length (rs g F) := by
  have hF : ∀ t ∈ F, IsSet c t := fun t ht => (h.is t ht).set
  refine ⟨fun s hs => ?_, up_rs _ _, fit_pw fun a ha b hb => ?_, Nat.le_trans (rs_few g F) h.few⟩
  · obtain ⟨t, ht, rfl, n⟩ := (mem_rs hg hF g1).mp hs
    exact ins_of (set_cut _ _) g1 n
  · obtain ⟨t, ht, rfl, n⟩ := (mem_rs hg hF g1).mp ha
    obtain ⟨u, hu, rfl, n2⟩ := (mem_rs hg hF g1).mp hb
    exact fit_col (set_cut _ _) (set_cut _ _) (fit_cut (fit_all h.fit ht hu))
theorem clu_rr (h : Clu c F) (hg : IsSet c g) : Clu g.length (rr g F) := by
  have hF : ∀ t ∈ F, IsSet c t := fun t ht => (h.is t ht).set
  refine ⟨fun s hs => ?_, up_rr _ _, fit_pw fun a ha b hb => ?_, Nat.le_trans (rr_few g F) h.few⟩
  · obtain ⟨t, ht, rfl, n, n2⟩ := (mem_rr hg hF).mp hs
    exact ⟨set_cut _ _, n, n2⟩
  · obtain ⟨t, ht, rfl, n⟩ := (mem_rr hg hF).mp ha
    obtain ⟨u, hu, rfl, n2⟩ := (mem_rr hg hF).mp hb
    exact fit_cut (fit_all h.fit ht hu)
theorem spl_us (h : Clu c F) (c1 : 1 ≤ c) : Spl c (us c F) := by
  refine ⟨fun s hs => ?_, up_us _ _, fit_pw fun a ha b hb => ?_, Nat.le_trans (us_few c F) h.few⟩
  · obtain ⟨t, ht, rfl, n⟩ := (mem_usC h).mp hs
    exact ins_of (h.is t ht).set c1 n
  · obtain ⟨t, ht, rfl, n⟩ := (mem_usC h).mp ha
    obtain ⟨u, hu, rfl, n2⟩ := (mem_usC h).mp hb
    exact fit_col (h.is t ht).set (h.is u hu).set (fit_all h.fit ht hu)
theorem rs_all (h : Spl c F) (c1 : 1 ≤ c) : rs (List.range c) F = F := by
  have hF : ∀ t ∈ F, IsSet c t := fun t ht => (h.is t ht).set
  refine (up_rs _ _).unique h.up fun s => ?_
  have lc : (List.range c).length = c := by simp
  have key : ∀ t ∈ F, sideOf (List.range c).length (cut (List.range c) t) = t := fun t ht => by
    have e : cut (List.range c) t = t := by
      have := set_cut (List.range c) t
      rw [lc] at this
      refine set_ext this (hF t ht) fun x hx => ?_
      rw [mem_cut, lc, getD_lt (by simpa using hx)]
      simp [hx]
    rw [e, lc]
    unfold sideOf
    rw [if_neg]
    simpa using (h.is t ht).no0
  rw [mem_rs (set_full c) hF (by simpa using c1)]
  constructor
  · rintro ⟨t, ht, rfl, n⟩
    rw [key t ht]
    exact ht
  · intro hs
    refine ⟨s, hs, key s hs, ?_⟩
    have i := h.is s hs
    have h2 := i.tr
    unfold triv at h2
    rw [Bool.or_eq_false_iff, decide_eq_false_iff_not, decide_eq_false_iff_not] at h2
    have l0 := List.length_pos_iff.mpr i.ne
    have l1 := nodup_len (a := 0 :: s) (b := List.range c) (List.nodup_cons.mpr ⟨i.no0, i.set.1.imp fun z => Nat.ne_of_lt z⟩) fun x hx => by
      rcases List.mem_cons.mp hx
                                                                                                    with rfl | hx
      · simpa [Nat.pos_iff_ne_zero] using Nat.ne_of_gt c1
      · simpa using i.set.2 x hx
    rw [List.length_range, List.length_cons] at l1
    rw [lc]
    unfold Nt
    omega
/-- the least set with some leaves -/
theorem all_least (h : Clu c F) (c2 : 2 ≤ c) (hg : IsSet c g) : ((allC c F).filter fun s => g.all fun x => s.contains x)[0]? = some (least c F g) := by
  have up : Up (canon (sing c ++ F) ++ [List.range c]) := by
    refine List.pairwise_append.mpr ⟨up_canon _, List.pairwise_singleton _ _, fun a ha b hb => ?_⟩
    rw [List.mem_singleton.mp hb]
    left
    rw [List.length_range]
    rcases List.mem_append.mp (mem_canon.mp ha) with z | z
    · obtain ⟨x, _, rfl⟩ := List.mem_map.mp z
      rw [List.length_singleton]
      omega
    · exact (h.is a z).hi
  have e : allC c F = canon (sing c ++ F) ++ [List.range c] := by
    refine (show Up (allC c F) from up_canon _).unique up fun s => ?_
    rw [show s ∈ allC c F ↔ _ from mem_canon]
    simp only [List.mem_append, mem_canon]
    grind
  rw [← List.head?_eq_getElem?, List.head?_filter, e, List.find?_append]
  unfold least
  cases (canon (sing c ++ F)).find? fun s => g.all fun x => s.contains x with
  | some t => rfl
  | none =>
    have : (g.all fun x => (List.range c).contains x) = true := List.all_eq_true.mpr fun x hx => by simpa using hg.2 x hx
    rw [List.find?_cons, this]
    rfl
end
end Lf
end
section
namespace Lf
open PySem Mp
/-- trees small enough to be shown -/
structure Sm (p : Nat × Fam) : Prop where
  c : p.1 ≤ 12
  few : p.2.length ≤ 30
  is : ∀ s ∈ p.2, IsSet p.1 s
theorem Spl.sm {c : Nat} {F : Fam} (h : Spl c F) (hc : c ≤ 12) : Sm (c, F) := ⟨hc, h.few, fun s hs => (h.is s hs).set⟩
theorem Clu.sm {c : Nat} {F : Fam} (h : Clu c F) (hc : c ≤ 12) : Sm (c, F) := ⟨hc, h.few, fun s hs => (h.is s hs).set⟩
def eTs (xs : List (Nat × Fam)) : D := .lst (xs.map fun p => eT p.1 p.2)
theorem tiny_T {p : Nat × Fam} (h : Sm p) : tiny (eT p.1 p.2) = true := by
  have h1 := h.c
  have h2 : tinys (p.2.map eS) = true := tinys_F fun s hs x hx => by
    have := (h.is s hs).2 x hx
    omega
  rw [eT, tiny, tinys, tinys, tinys, tiny, eF, tiny, h2]
  simp
  omega
theorem tiny_Ts : ∀ {xs : List (Nat × Fam)}, (∀ p ∈ xs, Sm p) → tinys (xs.map fun p => eT p.1 p.2) = true
  | [], _ => rfl
  | p :: xs, h => by
    rw [List.map_cons, tinys, tiny_T (h p List.mem_cons_self), tiny_Ts fun q hq => h q (List.mem_cons_of_mem _ hq)]
    rfl
theorem low_T (c : Nat) (F : Fam) : lowD 3 (eT c F) := (low_seq (n := 2) (xs := [.int c, eF F]) fun d hd => by
  rcases List.mem_cons.mp hd with e | hd
  · rw [e]
    exact low_int _ _
  · rw [List.mem_singleton.mp hd]
    exact (low_F F).1).1
theorem bulk_T {p : Nat × Fam} (h : Sm p) : (py (eT p.1 p.2)).bulk ≤ 3040 := by
  have h1 := bulk_Fs (F := p.2) fun s hs => by
    have := asc_len (h.is s hs)
    have := h.c
    omega
  have h2 := h.few
  rw [eT, py, PyData.bulk, pys, pys, pys, PyData.bulkAll, PyData.bulkAll, PyData.bulkAll, py, PyData.bulk, eF, py, PyData.bulk]
  omega
theorem bulk_Ts : ∀ {xs : List (Nat × Fam)}, (∀ p ∈ xs, Sm p) → PyData.bulkAll (pys (xs.map fun p => eT p.1 p.2)) ≤ 3050 * xs.length
  | [], _ => by simp [pys, PyData.bulkAll]
  | p :: xs, h => by
    have h1 := bulk_T (h p List.mem_cons_self)
    have h2 := bulk_Ts fun q hq => h q (List.mem_cons_of_mem _ hq)
    rw [List.map_cons, pys, PyData.bulkAll, List.length_cons]
    omega
theorem like_Ts (n : Nat) {xs : List (Nat × Fam)} (h : ∀ p ∈ xs, Sm p) (hl : xs.length ≤ 8) : Γ (n + 1) "_law_like" [eTs xs, eTs xs] = ret (.bl true) := by
  refine f__law_like n _ ?_ rfl ?_ ?_
  · rw [eTs, tiny]
    exact tiny_Ts h
  · refine shp_low (n := 4) (low_seq (n := 3) fun d hd => ?_).2 (by decide)
    obtain ⟨p, _, rfl⟩ := List.mem_map.mp hd
    exact low_T _ _
  · have := bulk_Ts h
    rw [eTs, py, PyData.bulk]
    omega
theorem like_S (n c : Nat) (hc : c ≤ 100) {s : List Nat} (h : IsSet c s) : Γ (n + 1) "_law_like" [eS s, eS s] = ret (.bl true) := by
  refine f__law_like n _ (tiny_S fun x hx => ?_) rfl (shp_S s) ?_
  · have := h.2 x hx
    omega
  · have := asc_len h
    rw [bulk_S]
    omega
theorem mut_Ts : ∀ xs : List (Nat × Fam), mutDs (xs.map fun p => eT p.1 p.2) = false
  | [] => rfl
  | p :: xs => by rw [List.map_cons, mutDs, mut_T, mut_Ts xs]; rfl
theorem after_Ts {t : T} {ρ : Mp.Env} (hf : fresh t = true) (xs : List (Nat × Fam)) : after t (eTs xs) ρ = ρ := by
  unfold after
  have : elImm (eTs xs) = true := by simp [eTs, elImm, mut_Ts]
  simp [hf, this]
theorem least_set {c : Nat} {R : Fam} {g : List Nat} (h : Clu c R) : IsSet c (least c R g) := by
  unfold least
  cases e : (canon (sing c ++ R)).find? fun s => g.all fun x => s.contains x with
  | none => exact set_full c
  | some t =>
    have m := List.mem_of_find?_eq_some e
    rcases List.mem_append.mp (mem_canon.mp m) with z | z
    · obtain ⟨x, hx, rfl⟩ := List.mem_map.mp z
      exact ⟨by simp, fun y hy => by
        rw [List.mem_singleton.mp hy]
        simpa using hx⟩
    · exact (h.is t z).set
section
variable (n c : Nat) (A R : Fam)
abbrev rE (a b d e f g h i j k l : Option Slot) : Mp.Env := [some (.st, false), some (eT c A, false), some (eT c R, false), a, b, d, e, f, g, h, i, j, k, l]
def rtB : List C := [(.asg (.nm 13) (.call "_law_some" [(.var 0), (.rgc false [(.var 3)]), (.con (.int 1))] [])), (.iff (.nt (.call "_law_like" [(.call "least_common" [(.var 13), (.var 2)] [1, 0]), (.call "_law_least" [(.var 2), (.var 13)] [])] [])) [(.ret (.con (.bl false)))] [])]
theorem some_ok (h12 : c ≤ 12) (m : Nat) (hm : m ≤ 12) (k : Nat) (hk : k ≤ m) {ρ : Mp.Env} {t : T} (r : ∃ r, ρ = some (.st, false) :: r) (ht : ev (callF M.tab (n + 11)) ρ t = ret (.int m)) : Runs (ev (callF M.tab (n + 11)) ρ (.call "_law_some" [(.var 0), (.rgc false [t]), (.con (.int k))] [])) 24 fun d => ∃ g : List Nat, IsSet m g ∧ k ≤ g.length ∧ d = eS g := by
  obtain ⟨r, rfl⟩ := r
  have z : m ≤ sizeLine := Nat.le_trans hm (by decide)
  have e : ev (callF M.tab (n + 11)) (some (.st, false) :: r) (.call "_law_some" [(.var 0), (.rgc false [t]), (.con (.int k))] []) = Γ (n + 11) "_law_some" [.st, eN (List.range m), .int k] := by
    rw [ev, evs, ev, getE_zero, ofR, bndR, evs, ev, evs, ht, evs]
    simp only [bndR, ofR, evs, ev, it_rng0 m (by omega), List.length_map, List.length_range, z, if_true, if_false, Bool.false_eq_true, permL]
    rfl
  rw [e]
  refine Runs.mono (f__law_some (n + 6) (List.range m) List.nodup_range (by simp; omega) k (by simpa using hk)) (by simp; omega) ?_
  rintro d ⟨s, rfl, h1, h2, h3⟩
  exact ⟨s, ⟨h1, fun x hx => by simpa using h2 x hx⟩, h3, rfl⟩
theorem pick_ok {m : Nat} {g l : List Nat} (hm : g.length = m) (hl : IsSet m l) (h12 : m ≤ 100) {G : Gam} {ρ : Mp.Env} (h9 : 9 < ρ.length) (h7 : getE ρ 7 = some (eS l)) (h4 : getE ρ 4 = some (eS g)) : ev G ρ (.bi .tup [(.lc (.nm 9) .val [(.var 7)] none (.ix (.var 4) (.var 9)))]) = ret (eS (pick g l)) := by
  have ll := asc_len hl
  have z : l.length ≤ sizeLine := Nat.le_trans (Nat.le_trans ll h12) (by decide)
  have e : ev G ρ (.lc (.nm 9) .val [(.var 7)] none (.ix (.var 4) (.var 9))) = ret (eN (pick g l)) := by
    rw [ev, evs, evs, ev, h7, ofR, bndR, bndR, bndR, it_val, seq_S, ofR, bndR, colM_map (g := fun x => some (nD (g.getD x 0))) fun x hx => ?_, noxR, bndR, List.length_map, if_pos z]
    · unfold eN pick
      congr 2
      rw [List.map_map]
      clear h7 ll z hl
      induction l with
      | nil => rfl
      | cons a r ih =>
        rw [List.filterMap_cons]
        simp [ih]
    · have g9 : getE (ρ.set 9 (some (nD x, false))) 9 = some (nD x) := by
        unfold getE
        rw [List.getElem?_set_self h9]
      have g4 : getE (ρ.set 9 (some (nD x, false))) 4 = some (eS g) := by
        unfold getE at h4 ⊢
        rw [List.getElem?_set_ne (by decide)]
        exact h4
      have lx : x < g.length := by
        have := hl.2 x hx
        omega
      have ix : ixD (eS g) (nD x) = some (nD (g.getD x 0)) := by
        rw [ix_S, List.getElem?_eq_getElem lx, getD_lt lx]
        rfl
      rw [bG_nm, ofR, bndR, tsto, bndR, if_pos rfl, ev, ev, g4, ofR, bndR, ev, g9, ofR, bndR, ix, ofR, bndR]
  rw [ev, evs, evs, e, bndR, bndR, bndR, bi_tup, seq_N, Option.map_some, ofR]
  rfl
theorem turn_ok (h3 : 3 ≤ c) (h12 : c ≤ 12) (hR : Clu c R) (b d e f g h i j : Option Slot) (k l : Option Slot) : Runs (evCs (callF M.tab (n + 11)) rtB (rE c A R (some (.int c, false)) b d e f g h i j k l)) 24
    fun o => ∃ ρ', o = .nx ρ' ∧ ∃ l', ρ' = rE c A R (some (.int c, false)) b d e f g h i j k l' := by
  unfold rtB
  refine Runs.mono (Runs.cs (b := 24) (k := 0) (I := fun ρ' => ∃ s, (IsSet c s ∧ 1 ≤ s.length) ∧ ρ' = rE c A R (some (.int c, false)) b d e f g h i j k (some (eS s, false))) (P := fun o => ∃ ρ', o = .nx ρ' ∧ ∃ l', ρ' = rE c A R (some (.int c, false)) b d e f g h i j k l') ?_ ?_) (Nat.le_refl _) fun _ z => z
  · refine Runs.mono (Runs.asg (some_ok n c h12 c h12 1 (by omega) ⟨_, rfl⟩ rfl)) (Nat.le_refl _) ?_
    rintro o ⟨ρ', rfl, d', ⟨s, hs, s1, rfl⟩, rfl⟩
    rw [after_im (mut_S s)]
    exact ⟨_, rfl, s, ⟨hs, s1⟩, rfl⟩
  · rintro ρ' ⟨s, ⟨hs, s1⟩, rfl⟩
    have fl := f_least_common n c R s (least c R s) h3 h12 hR hs s1 (all_least hR (by omega) hs)
    have ll := f__law_least (n + 9) c h12 R s hR.few (by have := asc_len hs; omega)
    have lk := like_S (n + 10) c (by omega) (least_set (g := s) hR)
    unfold Γ at fl ll lk
    have et : tst (callF M.tab (n + 11)) (rE c A R (some (.int c, false)) b d e f g h i j k (some (eS s, false))) (.nt (.call "_law_like" [(.call "least_common" [(.var 13), (.var 2)] [1, 0]), (.call "_law_least" [(.var 2), (.var 13)] [])] [])) = ret false := by
      rw [tst, tst]
      simp only [evs, ev, getE_zero, getE_succ, ofR, bndR, permL, pickL, List.getElem?_cons_zero, List.getElem?_cons_succ, Option.bind_some, Option.map_some, fl, ll, lk, tr_bl, Bool.not_true]
    rw [evCs, evC, et, bndR, if_neg (by decide), evCs, bndR]
    exact Runs.ret ⟨_, rfl, _, rfl⟩
end
end Lf
end
section
namespace Lf
open PySem Mp
theorem f__law_right (n c : Nat) (A R : Fam) (h3 : 3 ≤ c) (h12 : c ≤ 12) (hA : Spl c A) (hR : Clu c R) : Runs (Γ (n + 12) "_law_right" [.st, eT c A, eT c R]) 200 fun d => d = .bl true := by
  rw [Γ, call_code t__law_right rfl]
  show Runs (bnd (evCs (callF M.tab (n + 11)) [(.asg (.nm 3) (.ix (.var 1) (.con (.int 0)))), (.asg (.nm 4) (.call "_law_some" [(.var 0), (.rgc false [(.var 3)]), (.con (.int 3))] [])), (.par 5 6 (.call "restricted" [(.var 4), (.var 1)] [1, 0]) (.call "restricted_rooted" [(.var 4), (.var 2)] [1, 0])), (.iff (.nt (.call "_law_like" [(.lst [(.var 5), (.var 6)]), (.lst [(.call "_law_alone" [(.var 1), (.var 4), (.con (.bl false))] []), (.call "_law_alone" [(.var 2), (.var 4), (.con (.bl true))] [])])] [])) [(.ret (.con (.bl false)))] []), (.asg (.nm 7) (.call "_law_some" [(.var 0), (.rgc false [(.bi .len [(.var 4)])]), (.con (.int 3))] [])), (.asg (.nm 8) (.bi .tup [(.lc (.nm 9) .val [(.var 7)] none (.ix (.var 4) (.var 9)))])), (.asg (.nm 10) (.lst [(.call "restricted" [(.var 5), (.var 7)] []), (.call "restricted_rooted" [(.var 6), (.var 7)] []), (.call "unrooted" [(.var 6)] [])])), (.app 10 (.call "restricted" [(.var 1), (.rgc true [(.var 3)])] [])), (.asg (.nm 11) (.lst [(.call "restricted" [(.var 1), (.var 8)] []), (.call "restricted_rooted" [(.var 2), (.var 8)] [])])), (.asg (.nm 11) (.bin .Add (.var 11) (.lst [(.call "restricted" [(.call "unrooted" [(.var 2)] []), (.var 4)] []), (.var 1)]))), (.iff (.nt (.call "_law_like" [(.var 10), (.var 11)] [])) [(.ret (.con (.bl false)))] []), (.for_ (.nm 12) .rng [(.con (.int 3))] rtB), (.ret (.con (.bl true)))] (rE c A R none none none none none none none none none none none)) outD) 200 _
  have two : (2 : Nat) ≤ sizeLine := by decide
  have three : (3 : Nat) ≤ sizeLine := by decide
  have setA : ∀ t ∈ A, IsSet c t := fun t ht => (hA.is t ht).set
  have setR : ∀ t ∈ R, IsSet c t := fun t ht => (hR.is t ht).set
  have s1 : evC (callF M.tab (n + 11)) (.asg (.nm 3) (.ix (.var 1) (.con (.int 0)))) (rE c A R none none none none none none none none none none none) = ret (.nx (rE c A R (some (.int c, false)) none none none none none none none none none none)) := by
    rw [evC, ev]
    simp only [ev, getE_zero, getE_succ, ofR, bndR, ix_T0]
    rfl
  rw [cs_nx s1]
  refine Runs.out (Runs.mono (Runs.cs (b := 24) (k := 120) (I := fun ρ' => ∃ s, (IsSet c s ∧ 3 ≤ s.length) ∧ ρ' = rE c A R (some (.int c, false)) (some (eS s, false)) none none none none none none none none none) (P := fun o => ∃ d, d = D.bl true ∧ o = Out.rt d) ?_ ?_) (by decide) fun _ z => z)
  · refine Runs.mono (Runs.asg (some_ok n c h12 c h12 3 h3 ⟨_, rfl⟩ rfl)) (Nat.le_refl _) ?_
    rintro o ⟨ρ', rfl, d', ⟨s, hs, s1, rfl⟩, rfl⟩
    rw [after_im (mut_S s)]
    exact ⟨_, rfl, s, ⟨hs, s1⟩, rfl⟩
  rintro ρ' ⟨g, ⟨hg, g3⟩, rfl⟩
  have gc := asc_len hg
  have hS := spl_rs hA hg (by omega)
  have hC := clu_rr hR hg
  have fr := f_restricted n c A g h3 h12 hA hg g3 (rs_ne hg setA)
  have fq := f_restricted_rooted n c R g h3 h12 hR hg g3
  unfold Γ at fr fq
  have s3 : evC (callF M.tab (n + 11)) (.par 5 6 (.call "restricted" [(.var 4), (.var 1)] [1, 0]) (.call "restricted_rooted" [(.var 4), (.var 2)] [1, 0])) (rE c A R (some (.int c, false)) (some (eS g, false)) none none none none none none none none none) = ret (.nx (rE c A R (some (.int c, false)) (some (eS g, false)) (some (eT g.length (rs g A), false)) (some (eT g.length (rr g R), false)) none none none none none none none)) := by
    have e1 : ev (callF M.tab (n + 11)) (rE c A R (some (.int c, false)) (some (eS g, false)) none none none none none none none none none) (.call "restricted" [(.var 4), (.var 1)] [1, 0]) = ret (eT g.length (rs g A)) := by
      rw [ev]
      simp only [evs, ev, getE_zero, getE_succ, ofR, bndR, permL, pickL, List.getElem?_cons_zero, List.getElem?_cons_succ, Option.bind_some, Option.map_some, fr]
    have e2 : ev (callF M.tab (n + 11)) (rE c A R (some (.int c, false)) (some (eS g, false)) none none none none none none none none none) (.call "restricted_rooted" [(.var 4), (.var 2)] [1, 0]) = ret (eT g.length (rr g R)) := by
      rw [ev]
      simp only [evs, ev, getE_zero, getE_succ, ofR, bndR, permL, pickL, List.getElem?_cons_zero, List.getElem?_cons_succ, Option.bind_some, Option.map_some, fq]
    rw [evC, e1, bndR, after_im (mut_T _ _), e2, bndR, after_im (mut_T _ _)]
    rfl
  have s4 : evC (callF M.tab (n + 11)) (.iff (.nt (.call "_law_like" [(.lst [(.var 5), (.var 6)]), (.lst [(.call "_law_alone" [(.var 1), (.var 4), (.con (.bl false))] []), (.call "_law_alone" [(.var 2), (.var 4), (.con (.bl true))] [])])] [])) [(.ret (.con (.bl false)))] []) (rE c A R (some (.int c, false)) (some (eS g, false)) (some (eT g.length (rs g A), false)) (some (eT g.length (rr g R), false)) none none none none none none none) = ret (.nx (rE c A R (some (.int c, false)) (some (eS g, false)) (some (eT g.length (rs g A), false)) (some (eT g.length (rr g R), false)) none none none none none none none)) := by
    have a1 := f__law_alone (n + 8) c A g (by have := hA.few; omega) (by omega) (by omega) false
    have a2 := f__law_alone (n + 8) c R g (by have := hR.few; omega) (by omega) (by omega) true
    rw [← alone_s hg setA (by omega)] at a1
    rw [← alone_r hg setR] at a2
    have lk := like_Ts (n + 10) (xs := [(g.length, rs g A), (g.length, rr g R)]) (fun p hp => by
      rcases List.mem_cons.mp hp
                                                                                                    with rfl | hp
      · exact hS.sm (by omega)
      · rw
                                                                                                    [List.mem_singleton.mp hp]
        exact hC.sm (by omega)) (by show 2 ≤ 8; decide)
    have e0 : D.lst [eT g.length (rs g A), eT g.length (rr g R)] = eTs [(g.length, rs g A), (g.length, rr g R)] := rfl
    unfold Γ at a1 a2 lk
    have et : tst (callF M.tab (n + 11)) (rE c A R (some (.int c, false)) (some (eS g, false)) (some (eT g.length (rs g A), false)) (some (eT g.length (rr g R), false)) none none none none none none none) (.nt (.call "_law_like" [(.lst [(.var 5), (.var 6)]), (.lst [(.call "_law_alone" [(.var 1), (.var 4), (.con (.bl false))] []), (.call "_law_alone" [(.var 2), (.var 4), (.con (.bl true))] [])])] [])) = ret false := by
      rw [tst, tst]
      simp only [evs, ev, getE_zero, getE_succ, ofR, bndR, permL, a1, a2, List.length_cons, List.length_nil, Nat.reduceAdd, two, if_true, e0, lk, tr_bl, Bool.not_true]
    rw [evC, et, bndR, if_neg (by decide), evCs]
  rw [cs_nx s3, cs_nx s4]
  refine Runs.mono (Runs.cs (b := 24) (k := 96) (I := fun ρ' => ∃ l, (IsSet g.length l ∧ 3 ≤ l.length) ∧ ρ' = rE c A R (some (.int c, false)) (some (eS g, false)) (some (eT g.length (rs g A), false)) (some (eT g.length (rr g R), false)) (some (eS l, false)) none none none none none none) (P := fun o => ∃ d, d = D.bl true ∧ o = Out.rt d) ?_ ?_) (by decide) fun _ z => z
  · refine Runs.mono (Runs.asg (some_ok n c h12 g.length (by omega) 3 g3 ⟨_, rfl⟩ ?_)) (Nat.le_refl _) ?_
    · rw [ev]
      simp only [evs, ev, getE_zero, getE_succ, ofR, bndR, bi_len, len_S]
    rintro o ⟨ρ', rfl, d', ⟨s, hs, s1, rfl⟩, rfl⟩
    rw [after_im (mut_S s)]
    exact ⟨_, rfl, s, ⟨hs, s1⟩, rfl⟩
  rintro ρ' ⟨l, ⟨hl, l3⟩, rfl⟩
  have lc := asc_len hl
  have hp := set_pick hg hl
  have pl : (pick g l).length = l.length := by simp [pick]
  have s6 : evC (callF M.tab (n + 11)) (.asg (.nm 8) (.bi .tup [(.lc (.nm 9) .val [(.var 7)] none (.ix (.var 4) (.var 9)))])) (rE c A R (some (.int c, false)) (some (eS g, false)) (some (eT g.length (rs g A), false)) (some (eT g.length (rr g R), false)) (some (eS l, false)) none none none none none none) = ret (.nx (rE c A R (some (.int c, false)) (some (eS g, false)) (some (eT g.length (rs g A), false)) (some (eT g.length (rr g R), false)) (some (eS l, false)) (some (eS (pick g l), false)) none none none none none)) := by
    rw [evC, pick_ok (m := g.length) rfl hl (by omega) (by show 9 < 14; decide) (by simp only [getE_zero, getE_succ]) (by simp only [getE_zero, getE_succ]), bndR, after_im (mut_S _)]
    rfl
  have q1 := f_restricted n g.length (rs g A) l g3 (by omega) hS hl l3 (rs_ne hl fun t ht => (hS.is t ht).set)
  have q2 := f_restricted_rooted n g.length (rr g R) l g3 (by omega) hC hl l3
  have q3 := f_unrooted n g.length (rr g R) g3 (by omega) hC (us_ne hC)
  have q4 := f_restricted n c A (List.range c) h3 h12 hA (set_full c) (by simpa using h3) (rs_ne (set_full c) setA)
  have q5 := f_restricted n c A (pick g l) h3 h12 hA hp (by omega) (rs_ne hp setA)
  have q6 := f_restricted_rooted n c R (pick g l) h3 h12 hR hp (by omega)
  have q7 := f_unrooted n c R h3 h12 hR (us_ne hR)
  have hU := spl_us hR (by omega)
  have q8 := f_restricted n c (us c R) g h3 h12 hU hg g3 (rs_ne hg fun t ht => (hU.is t ht).set)
  rw [rs_rs hg setA hl (by omega)] at q1
  rw [rr_rr hg setR hl] at q2
  rw [us_rr hg hR hC (by omega)] at q3
  rw [rs_all hA (by omega), List.length_range] at q4
  rw [pl] at q5 q6
  unfold Γ at q1 q2 q3 q4 q5 q6 q7 q8
  let L3 : List (Nat × Fam) := [(l.length, rs (pick g l) A), (l.length, rr (pick g l) R), (g.length, rs g (us c R))]
  let L2 : List (Nat × Fam) := [(l.length, rs (pick g l) A), (l.length, rr (pick g l) R)]
  let L4 : List (Nat × Fam) := [(l.length, rs (pick g l) A), (l.length, rr (pick g l) R), (g.length, rs g (us c R)), (c, A)]
  have s7 : evC (callF M.tab (n + 11)) (.asg (.nm 10) (.lst [(.call "restricted" [(.var 5), (.var 7)] []), (.call "restricted_rooted" [(.var 6), (.var 7)] []), (.call "unrooted" [(.var 6)] [])])) (rE c A R (some (.int c, false)) (some (eS g, false)) (some (eT g.length (rs g A), false)) (some (eT g.length (rr g R), false)) (some (eS l, false)) (some (eS (pick g l), false)) none none none none none) = ret (.nx (rE c A R (some (.int c, false)) (some (eS g, false)) (some (eT g.length (rs g A), false)) (some (eT g.length (rr g R), false)) (some (eS l, false)) (some (eS (pick g l), false)) none (some (eTs L3, true)) none none none)) := by
    have e1 : ev (callF M.tab (n + 11)) (rE c A R (some (.int c, false)) (some (eS g, false)) (some (eT g.length (rs g A), false)) (some (eT g.length (rr g R), false)) (some (eS l, false)) (some (eS (pick g l), false)) none none none none none) (.lst [(.call "restricted" [(.var 5), (.var 7)] []), (.call "restricted_rooted" [(.var 6), (.var 7)] []), (.call "unrooted" [(.var 6)] [])]) = ret (eTs L3) := by
      rw [ev]
      simp only [evs, ev, getE_zero, getE_succ, ofR, bndR, permL, q1, q2, q3, List.length_cons, List.length_nil, Nat.reduceAdd, three, if_true]
      rfl
    rw [evC, e1, bndR, after_Ts rfl]
    rfl
  have s8 : evC (callF M.tab (n + 11)) (.app 10 (.call "restricted" [(.var 1), (.rgc true [(.var 3)])] [])) (rE c A R (some (.int c, false)) (some (eS g, false)) (some (eT g.length (rs g A), false)) (some (eT g.length (rr g R), false)) (some (eS l, false)) (some (eS (pick g l), false)) none (some (eTs L3, true)) none none none) = ret (.nx (rE c A R (some (.int c, false)) (some (eS g, false)) (some (eT g.length (rs g A), false)) (some (eT g.length (rr g R), false)) (some (eS l, false)) (some (eS (pick g l), false)) none (some (eTs L4, true)) none none none)) := by
    have z : c ≤ sizeLine := Nat.le_trans h12 (by decide)
    have z3 : (L3.map fun p => eT p.1 p.2).length < sizeLine := by rw [List.length_map]; show 3 < sizeLine; decide
    have e1 : ev (callF M.tab (n + 11)) (rE c A R (some (.int c, false)) (some (eS g, false)) (some (eT g.length (rs g A), false)) (some (eT g.length (rr g R), false)) (some (eS l, false)) (some (eS (pick g l), false)) none (some (eTs L3, true)) none none none) (.call "restricted" [(.var 1), (.rgc true [(.var 3)])] []) = ret (eT c A) := by
      rw [ev]
      simp only [evs, ev, getE_zero, getE_succ, ofR, bndR, permL, it_rng0 c (by omega), List.length_map, List.length_range, z, if_true]
      exact q4
    rw [evC, own_l _ 10 (L3.map fun p => eT p.1 p.2) rfl, ofR, bndR, e1, bndR, mut_T]
    rw [if_pos ⟨z3, fun h => by cases h⟩]
    rfl
  have s9 : evC (callF M.tab (n + 11)) (.asg (.nm 11) (.lst [(.call "restricted" [(.var 1), (.var 8)] []), (.call "restricted_rooted" [(.var 2), (.var 8)] [])])) (rE c A R (some (.int c, false)) (some (eS g, false)) (some (eT g.length (rs g A), false)) (some (eT g.length (rr g R), false)) (some (eS l, false)) (some (eS (pick g l), false)) none (some (eTs L4, true)) none none none) = ret (.nx (rE c A R (some (.int c, false)) (some (eS g, false)) (some (eT g.length (rs g A), false)) (some (eT g.length (rr g R), false)) (some (eS l, false)) (some (eS (pick g l), false)) none (some (eTs L4, true)) (some (eTs L2, true)) none none)) := by
    have e1 : ev (callF M.tab (n + 11)) (rE c A R (some (.int c, false)) (some (eS g, false)) (some (eT g.length (rs g A), false)) (some (eT g.length (rr g R), false)) (some (eS l, false)) (some (eS (pick g l), false)) none (some (eTs L4, true)) none none none) (.lst [(.call "restricted" [(.var 1), (.var 8)] []), (.call "restricted_rooted" [(.var 2), (.var 8)] [])]) = ret (eTs L2) := by
      rw [ev]
      simp only [evs, ev, getE_zero, getE_succ, ofR, bndR, permL, q5, q6, List.length_cons, List.length_nil, Nat.reduceAdd, two, if_true]
      rfl
    rw [evC, e1, bndR, after_Ts rfl]
    rfl
  have s10 : evC (callF M.tab (n + 11)) (.asg (.nm 11) (.bin .Add (.var 11) (.lst [(.call "restricted" [(.call "unrooted" [(.var 2)] []), (.var 4)] []), (.var 1)]))) (rE c A R (some (.int c, false)) (some (eS g, false)) (some (eT g.length (rs g A), false)) (some (eT g.length (rr g R), false)) (some (eS l, false)) (some (eS (pick g l), false)) none (some (eTs L4, true)) (some (eTs L2, true)) none none) = ret (.nx (rE c A R (some (.int c, false)) (some (eS g, false)) (some (eT g.length (rs g A), false)) (some (eT g.length (rr g R), false)) (some (eS l, false)) (some (eS (pick g l), false)) none (some (eTs L4, true)) (some (eTs L4, true)) none none)) := by
    have e1 : ev (callF M.tab (n + 11)) (rE c A R (some (.int c, false)) (some (eS g, false)) (some (eT g.length (rs g A), false)) (some (eT g.length (rr g R), false)) (some (eS l, false)) (some (eS (pick g l), false)) none (some (eTs L4, true)) (some (eTs L2, true)) none none) (.bin .Add (.var 11) (.lst [(.call "restricted" [(.call "unrooted" [(.var 2)] []), (.var 4)] []), (.var 1)])) = ret (eTs L4) := by
      have z4 : (4 : Nat) ≤ sizeLine := by decide
      have bb : binD .Add (eTs L2) (.lst [eT g.length (rs g (us c R)), eT c A]) = some (eTs L4) := by
        show (if (L2.map fun p => eT p.1 p.2).length + 2 ≤ sizeLine then some (D.lst _) else none) = _
        rw [if_pos (by exact z4)]
        rfl
      rw [ev, ev]
      simp only [evs, ev, getE_zero, getE_succ, ofR, bndR, permL, q7, q8, List.length_cons, List.length_nil, Nat.reduceAdd, two, if_true, bb]
    rw [evC, e1, bndR, after_Ts rfl]
    rfl
  have s11 : evC (callF M.tab (n + 11)) (.iff (.nt (.call "_law_like" [(.var 10), (.var 11)] [])) [(.ret (.con (.bl false)))] []) (rE c A R (some (.int c, false)) (some (eS g, false)) (some (eT g.length (rs g A), false)) (some (eT g.length (rr g R), false)) (some (eS l, false)) (some (eS (pick g l), false)) none (some (eTs L4, true)) (some (eTs L4, true)) none none) = ret (.nx (rE c A R (some (.int c, false)) (some (eS g, false)) (some (eT g.length (rs g A), false)) (some (eT g.length (rr g R), false)) (some (eS l, false)) (some (eS (pick g l), false)) none (some (eTs L4, true)) (some (eTs L4, true)) none none)) := by
    have lk := like_Ts (n + 10) (xs := L4) (fun p hp' => by
      have h1 := (spl_rs hA hp (by omega)).sm (by omega)
      have h2 := (clu_rr hR hp).sm (by omega)
      have h3 := (spl_rs hU hg (by omega)).sm (by omega)
      have h4 := hA.sm h12
      rw [pl] at h1 h2
      simp only [L4, List.mem_cons, List.mem_nil_iff, or_false] at hp'
      rcases hp' with rfl | rfl | rfl | rfl
      · exact h1
      · exact h2
      · exact h3
      · exact h4) (by show 4 ≤ 8; decide)
    unfold Γ at lk
    have et : tst (callF M.tab (n + 11)) (rE c A R (some (.int c, false)) (some (eS g, false)) (some (eT g.length (rs g A), false)) (some (eT g.length (rr g R), false)) (some (eS l, false)) (some (eS (pick g l), false)) none (some (eTs L4, true)) (some (eTs L4, true)) none none) (.nt (.call "_law_like" [(.var 10), (.var 11)] [])) = ret false := by
      rw [tst, tst]
      simp only [evs, ev, getE_zero, getE_succ, ofR, bndR, permL, lk, tr_bl, Bool.not_true]
    rw [evC, et, bndR, if_neg (by decide), evCs]
  rw [cs_nx s6, cs_nx s7, cs_nx s8, cs_nx s9, cs_nx s10, cs_nx s11]
  have s12 : Runs (evC (callF M.tab (n + 11)) (.for_ (.nm 12) .rng [(.con (.int 3))] rtB) (rE c A R (some (.int c, false)) (some (eS g, false)) (some (eT g.length (rs g A), false)) (some (eT g.length (rr g R), false)) (some (eS l, false)) (some (eS (pick g l), false)) none (some (eTs L4, true)) (some (eTs L4, true)) none none)) 72 fun o => ∃ ρ', o = .nx ρ' ∧ True := by
    have it3 : itD .rng [.int 3] = some ((List.range 3).map nD) := it_rng0 3 (by decide)
    have m0 : mutDs [D.int 3] = false := by simp [mutDs]
    have e : evC (callF M.tab (n + 11)) (.for_ (.nm 12) .rng [(.con (.int 3))] rtB) (rE c A R (some (.int c, false)) (some (eS g, false)) (some (eT g.length (rs g A), false)) (some (eT g.length (rr g R), false)) (some (eS l, false)) (some (eS (pick g l), false)) none (some (eTs L4, true)) (some (eTs L4, true)) none none) = loopC (fun d ρ => bnd (ofO (bindG (.nm 12) d ρ)) fun ρ' => evCs (callF M.tab (n + 11)) rtB ρ') ((List.range 3).map nD) (rE c A R (some (.int c, false)) (some (eS g, false)) (some (eT g.length (rs g A), false)) (some (eT g.length (rr g R), false)) (some (eS l, false)) (some (eS (pick g l), false)) none (some (eTs L4, true)) (some (eTs L4, true)) none none) := by
      rw [evC]
      simp only [evs, ev, ofR, bndR, it3, afters, m0, if_false, Bool.false_eq_true]
    rw [e]
    have := Runs.loop (h := nD) (f := fun d ρ => bnd (ofO (bindG (.nm 12) d ρ)) fun ρ' => evCs (callF M.tab (n + 11)) rtB ρ') (xs := List.range 3) (b := 24) (I := fun _ ρ => ∃ k l', ρ = rE c A R (some (.int c, false)) (some (eS g, false)) (some (eT g.length (rs g A), false)) (some (eT g.length (rr g R), false)) (some (eS l, false)) (some (eS (pick g l), false)) none (some (eTs L4, true)) (some (eTs L4, true)) k l') ?_ _ ⟨none, none, rfl⟩
    · exact Runs.mono this (by decide) fun o ⟨ρ', z, _⟩ => ⟨ρ', z, trivial⟩
    · rintro pre x post ep ρ ⟨k, l', rfl⟩
      show Runs (bnd (ofO (bindG (.nm 12) (nD x) _)) _) 24 _
      rw [bG_nm, ofR, bndR]
      dsimp only [List.set]
      refine Runs.mono (turn_ok n c A R h3 h12 hR _ _ _ _ _ _ _ _ _ _) (Nat.le_refl _) ?_
      rintro o ⟨ρ', rfl, l2, rfl⟩
      exact ⟨_, rfl, _, l2, rfl⟩
  refine Runs.mono (Runs.cs s12 (k := 0) (P := fun o => ∃ d, d = D.bl true ∧ o = Out.rt d) ?_) (by decide) fun _ z => z
  rintro ρ' -
  exact Runs.rtl (Runs.of (a := D.bl true) (by rw [ev]) rfl)
end Lf
end
section
set_option maxHeartbeats 0
namespace Lf
open PySem PySem.Spec PyProof.Rows L2 Mp
def lo0 : List PySem.Str := ["BadSet", "BadTree", "FEWEST", "LeafError", "MOST", "_law_alone", "_law_begin", "_law_count", "_law_cut_to", "_law_draw", "_law_family", "_law_in_order", "_law_least", "_law_like", "_law_mixed", "_law_of", "_law_rest", "_law_right", "_law_rooted", "_law_shuffled"]
def lo1 : List PySem.Str := ["_law_side", "_law_some", "_law_tree", "all_clusters", "common", "do_fit", "everything", "first_wrong", "in_order", "inner_splits", "is_cluster", "is_inner_split", "is_number", "is_set", "is_split", "is_trivial", "is_whole", "least_common", "need_rooted", "need_set"]
def lo2 : List PySem.Str := ["need_tree", "order_of", "renumbered", "restricted", "restricted_rooted", "restricted_rooted_so", "restricted_so", "side_of", "unrooted", "unrooted_so", "within", "without", "wrong_family", "wrong_tree"]
def lo : List PySem.Str := lo0 ++ lo1 ++ lo2
abbrev RR : PySem.W.OpenRow := PySem.W.OpenLaw.row PySem.Challenge.rw_leaftold_k03_whole_some_leaves_alone
abbrev hk : PySem.W.Hook := He.hookX 6 (M.fa more) (M.fn more) [] (M.tf more) (M.ex more)
def ob (s : PySem.W.SharedT) : He.AlX := He.obsX 6 (M.fa more) (M.fn more) [] (M.tf more) (M.ex more) (HandSHeadRun.getT s)
theorem ob_eq (s : PySem.W.SharedT) : ob s = hk.obs s.abs := He.obsX_eq (HandSHeadRun.getT_eq s)
theorem run (w : World) : HandSHeadRun.RunEq RR (PySem.W.view RR.prog [60]) hk ob 20000 lo w := by
  intro os
  kernel_rfl
theorem binds_all {K : PySem.W.Frag} : ∀ p ∈ M.all, ∀ {f : Addr} {fd : FuncData}, FunX K p.1.x p.1.st f fd → ∀ q ∈ p.2, BindP K fd p.1.ps q.1 q.2.1 q.2.2 ∧ ∀ vs : List V, vs.length = q.1 + q.2.1.length → ∀ as, permL q.2.2 vs = some as → as.length = p.1.ps.length := by
  intro p hp
  have e : M.all = (d_wrong_tree, p_wrong_tree) :: (ds0 ++ (ds1 ++ (ds2 ++ (ds3)))) := rfl
  rw [e] at hp
  rcases List.mem_cons.mp hp
                                                                                                    with rfl | hp
  · intro f fd F; exact b_wrong_tree F
  rcases List.mem_append.mp hp
                                                                                                    with hp | hp
  · unfold ds0 at hp
    rcases List.mem_cons.mp hp
                                                                                                    with rfl | hp
    · intro f fd F; exact b_is_whole F
    rcases List.mem_cons.mp hp
                                                                                                    with rfl | hp
    · intro f fd F; exact b_is_number F
    rcases List.mem_cons.mp hp
                                                                                                    with rfl | hp
    · intro f fd F; exact b_is_set F
    rcases List.mem_cons.mp hp
                                                                                                    with rfl | hp
    · intro f fd F; exact b_need_set F
    rcases List.mem_cons.mp hp
                                                                                                    with rfl | hp
    · intro f fd F; exact b_everything F
    rcases List.mem_cons.mp hp
                                                                                                    with rfl | hp
    · intro f fd F; exact b_without F
    rcases List.mem_cons.mp hp
                                                                                                    with rfl | hp
    · intro f fd F; exact b_common F
    rcases List.mem_cons.mp hp
                                                                                                    with rfl | hp
    · intro f fd F; exact b_within F
    rcases List.mem_cons.mp hp
                                                                                                    with rfl | hp
    · intro f fd F; exact b_order_of F
    rcases List.mem_cons.mp hp
                                                                                                    with rfl | hp
    · intro f fd F; exact b_in_order F
    rcases List.mem_cons.mp hp
                                                                                                    with rfl | hp
    · intro f fd F; exact b_first_wrong F
    rcases List.mem_cons.mp hp
                                                                                                    with rfl | hp
    · intro f fd F; exact b_is_split F
    rcases List.mem_cons.mp hp
                                                                                                    with rfl | hp
    · intro f fd F; exact b_is_trivial F
    rcases List.mem_cons.mp hp
                                                                                                    with rfl | hp
    · intro f fd F; exact b_side_of F
    rcases List.mem_cons.mp hp
                                                                                                    with rfl | hp
    · intro f fd F; exact b_do_fit F
    cases hp
  rcases List.mem_append.mp hp
                                                                                                    with hp | hp
  · unfold ds1 at hp
    rcases List.mem_cons.mp hp
                                                                                                    with rfl | hp
    · intro f fd F; exact b_is_inner_split F
    rcases List.mem_cons.mp hp
                                                                                                    with rfl | hp
    · intro f fd F; exact b_is_cluster F
    rcases List.mem_cons.mp hp
                                                                                                    with rfl | hp
    · intro f fd F; exact b_wrong_family F
    rcases List.mem_cons.mp hp
                                                                                                    with rfl | hp
    · intro f fd F; exact b_need_tree F
    rcases List.mem_cons.mp hp
                                                                                                    with rfl | hp
    · intro f fd F; exact b_need_rooted F
    rcases List.mem_cons.mp hp
                                                                                                    with rfl | hp
    · intro f fd F; exact b_all_clusters F
    rcases List.mem_cons.mp hp
                                                                                                    with rfl | hp
    · intro f fd F; exact b_inner_splits F
    rcases List.mem_cons.mp hp
                                                                                                    with rfl | hp
    · intro f fd F; exact b_unrooted_so F
    rcases List.mem_cons.mp hp
                                                                                                    with rfl | hp
    · intro f fd F; exact b_renumbered F
    rcases List.mem_cons.mp hp
                                                                                                    with rfl | hp
    · intro f fd F; exact b_restricted_so F
    rcases List.mem_cons.mp hp
                                                                                                    with rfl | hp
    · intro f fd F; exact b_restricted_rooted_so F
    rcases List.mem_cons.mp hp
                                                                                                    with rfl | hp
    · intro f fd F; exact b_unrooted F
    rcases List.mem_cons.mp hp
                                                                                                    with rfl | hp
    · intro f fd F; exact b_restricted F
    rcases List.mem_cons.mp hp
                                                                                                    with rfl | hp
    · intro f fd F; exact b_restricted_rooted F
    rcases List.mem_cons.mp hp
                                                                                                    with rfl | hp
    · intro f fd F; exact b_least_common F
    cases hp
  rcases List.mem_append.mp hp
                                                                                                    with hp | hp
  · unfold ds2 at hp
    rcases List.mem_cons.mp hp
                                                                                                    with rfl | hp
    · intro f fd F; exact b__law_like F
    rcases List.mem_cons.mp hp
                                                                                                    with rfl | hp
    · intro f fd F; exact b__law_in_order F
    rcases List.mem_cons.mp hp
                                                                                                    with rfl | hp
    · intro f fd F; exact b__law_rest F
    rcases List.mem_cons.mp hp
                                                                                                    with rfl | hp
    · intro f fd F; exact b__law_side F
    rcases List.mem_cons.mp hp
                                                                                                    with rfl | hp
    · intro f fd F; exact b__law_cut_to F
    rcases List.mem_cons.mp hp
                                                                                                    with rfl | hp
    · intro f fd F; exact b__law_mixed F
    rcases List.mem_cons.mp hp
                                                                                                    with rfl | hp
    · intro f fd F; exact b__law_draw F
    rcases List.mem_cons.mp hp
                                                                                                    with rfl | hp
    · intro f fd F; exact b__law_of F
    rcases List.mem_cons.mp hp
                                                                                                    with rfl | hp
    · intro f fd F; exact b__law_shuffled F
    rcases List.mem_cons.mp hp
                                                                                                    with rfl | hp
    · intro f fd F; exact b__law_some F
    rcases List.mem_cons.mp hp
                                                                                                    with rfl | hp
    · intro f fd F; exact b__law_family F
    rcases List.mem_cons.mp hp
                                                                                                    with rfl | hp
    · intro f fd F; exact b__law_rooted F
    rcases List.mem_cons.mp hp
                                                                                                    with rfl | hp
    · intro f fd F; exact b__law_tree F
    rcases List.mem_cons.mp hp
                                                                                                    with rfl | hp
    · intro f fd F; exact b__law_count F
    rcases List.mem_cons.mp hp
                                                                                                    with rfl | hp
    · intro f fd F; exact b__law_alone F
    cases hp
  unfold ds3 at hp
  rcases List.mem_cons.mp hp
                                                                                                    with rfl | hp
  · intro f fd F; exact b__law_least F
  rcases List.mem_cons.mp hp
                                                                                                    with rfl | hp
  · intro f fd F; exact b__law_right F
  cases hp
theorem told_all {p : DefS × List Pat} (hp : p ∈ M.all) : p.1 ∈ M.told more := List.mem_append_left _ (List.mem_map.mpr ⟨p, hp, rfl⟩)
section
variable {w : PySem.World} {h base : Heap} {K : PySem.W.Frag} {mg : Str → Option Value} (c : HSays M more w h K) (KI : K.In h) (G : h.Ns mainGlobals mg)
abbrev WW (K : PySem.W.Frag) (mg : Str → Option Value) : Wp := M.wp more K mg lamW qn
theorem defs_h (c : HSays M more w h K) (KI : K.In h) (G : h.Ns mainGlobals mg) (tb : ∀ p ∈ (M.tf more).map (He.cT K), LamX.TabB base mg p.1 p.2) : ∀ p ∈ M.all, ∃ f fd, DefH K mg p.1 p.2 f fd ∧ (p.1.gen = true → TabH base mg (WW K mg) fd.code) := fun p hp => by
  obtain ⟨fd, g, F, e⟩ := says_def c KI G (told_all hp)
  exact ⟨_, fd, ⟨g, F, fun q hq => binds_all p hp F q hq⟩, fun hg => says_tab c tb (told_all hp) hg e⟩
theorem wt_h (c : HSays M more w h K) (KI : K.In h) (G : h.Ns mainGlobals mg) (tb : ∀ p ∈ (M.tf more).map (He.cT K), LamX.TabB base mg p.1 p.2) (n : Nat) (a : AllOk RR.prog w K mg base M.gi (WW K mg) (callF M.tab n) (6 * n)) :
    DefOk RR.prog w K mg base CX0 (6 * (n + 1)) (WW K mg) (callF M.tab (n + 1)) M.wt.1.x M.wt.2 := by
  obtain ⟨fd, g, F, e⟩ := says_def c KI G (told_all (p := M.wt) List.mem_cons_self)
  refine def_up2 a (says_mod c KI G) ⟨g, F, fun q hq => binds_all M.wt List.mem_cons_self F q hq⟩ (chk.sc _ List.mem_cons_self) (chk.len _ List.mem_cons_self) (chk.tab List.mem_cons_self) (fun z => by cases z) fun E X o e1 e2 e3 e4 => ?_
  have ht : LTabH X.base X.mg (WW K mg) X.env.code qn := by
    rw [e3, e4, e1]
    exact says_ltab c tb e
  have hq : X.env.qual ++ "<lambda>" = qn := by
    rw [e2]
    decide +kernel
  obtain ⟨cs, hcs, key⟩ : ∃ cs, cs = c_wrong_tree ∧ PSs X (C8.fnBody (top 27)) (tSs (WW K mg) (callF M.tab n) cs E) := by
    refine ⟨_, ?hcs, wt_all (E := E) o (lx1 := "lamC") (lx2 := "lamI") (qn := qn) (i := 3) (caps := [2]) (by kernel_rfl) (by kernel_rfl) (show lamW "lamC" = some (LD true) by kernel_rfl) (show lamW "lamI" = some (LD false) by kernel_rfl) hq ht (by rfl) (by rfl)⟩
    kernel_rfl
  rw [hcs] at key
  exact key
end
end Lf
end
section
set_option maxHeartbeats 0
namespace Lf
open PySem PySem.Spec PyProof.Rows L2 Mp
section
variable {w : PySem.World} {h base : Heap} {K : PySem.W.Frag} {mg : Str → Option Value}
theorem lam_lamC {n : Nat} (c : HSays M more w h K) (KI : K.In h) (G : h.Ns mainGlobals mg) (a : AllOk RR.prog w K mg base M.gi (WW K mg) (callF M.tab n) (6 * n)) : LamOk RR.prog w K mg base CX0 (6 * (n + 1)) (WW K mg) (callF M.tab (n + 1)) "lamC" := by
  refine lam_up (L := LD true) (NL := ["one", "count"]) (ps := ["one"]) (ce := .call "is_cluster" [.var 0, .var 1] []) a (says_mod c KI G) (fun L' e => ?_) (by kernel_rfl) (fun cl pm cv ctv us hl => match us, hl with | [_], _ => by rfl) (by kernel_rfl) fun E X o => ?_
  · have e2 : lamW "lamC" = some (LD true) := by kernel_rfl
    exact (Option.some.inj (e2.symm.trans e)).symm
  · obtain ⟨t, ht, key⟩ : ∃ t, t = T.call "is_cluster" [.var 0, .var 1] [] ∧ PE X (LD true).body (tE (WW K mg) (callF M.tab n) t E) := by
      refine ⟨_, ?_, ((comp 60).E ⟨["one", "count"], (LD true).scope, false, false, 5⟩ (LD true).body).ok E X o⟩
      kernel_rfl
    rw [ht] at key
    exact key
theorem lam_lamI {n : Nat} (c : HSays M more w h K) (KI : K.In h) (G : h.Ns mainGlobals mg) (a : AllOk RR.prog w K mg base M.gi (WW K mg) (callF M.tab n) (6 * n)) : LamOk RR.prog w K mg base CX0 (6 * (n + 1)) (WW K mg) (callF M.tab (n + 1)) "lamI" := by
  refine lam_up (L := LD false) (NL := ["one", "count"]) (ps := ["one"]) (ce := .call "is_inner_split" [.var 0, .var 1] []) a (says_mod c KI G) (fun L' e => ?_) (by kernel_rfl) (fun cl pm cv ctv us hl => match us, hl with | [_], _ => by rfl) (by kernel_rfl) fun E X o => ?_
  · have e2 : lamW "lamI" = some (LD false) := by kernel_rfl
    exact (Option.some.inj (e2.symm.trans e)).symm
  · obtain ⟨t, ht, key⟩ : ∃ t, t = T.call "is_inner_split" [.var 0, .var 1] [] ∧ PE X (LD false).body (tE (WW K mg) (callF M.tab n) t E) := by
      refine ⟨_, ?_, ((comp 60).E ⟨["one", "count"], (LD false).scope, false, false, 5⟩ (LD false).body).ok E X o⟩
      kernel_rfl
    rw [ht] at key
    exact key
theorem lam_h (c : HSays M more w h K) (KI : K.In h) (G : h.Ns mainGlobals mg) (n : Nat) (a : AllOk RR.prog w K mg base M.gi (WW K mg) (callF M.tab n) (6 * n)) (lx : Str) : LamOk RR.prog w K mg base CX0 (6 * (n + 1)) (WW K mg) (callF M.tab (n + 1)) lx := by
  by_cases h1 : lx = "lamC"
  · rw [h1]
    exact lam_lamC c KI G a
  · by_cases h2 : lx = "lamI"
    · rw [h2]
      exact lam_lamI c KI G a
    · exact lam_none (by show lamW lx = none; unfold lamW; rw [if_neg h1, if_neg h2])
theorem all_h (c : HSays M more w h K) (KI : K.In h) (G : h.Ns mainGlobals mg) (tb : ∀ p ∈ (M.tf more).map (He.cT K), LamX.TabB base mg p.1 p.2) (n : Nat) : AllOk RR.prog w K mg base M.gi (WW K mg) (callF M.tab n) (6 * n) :=
  all_ok chk (says_mod c KI G) (defs_h c KI G tb) (fun Γ K0 => comp_eq Γ K0) (wt_h c KI G tb) (lam_h c KI G) n
def begCs : Scope := match C8.fnBody (top 47) with
  | [_, .Return (some (.Dict _ [_, .ListComp _ _ cs _, _] _)) _] => cs
  | _ => ⟨.function,
                                                                                                    [], false, false, []⟩
theorem beg_h (c : HSays M more w h K) (KI : K.In h) (G : h.Ns mainGlobals mg) (tb : ∀ p ∈ (M.tf more).map (He.cT K), LamX.TabB base mg p.1 p.2) : ∃ fd, mg "_law_begin" = some (.ref (He.ga K "_law_begin")) ∧ PySem.W.keepIn K (.ref (He.ga K "_law_begin")) = true ∧ BindP K fd ["script"] 1 [] [] ∧ FnG RR.prog w K mg base CX0 6 (He.ga K "_law_begin") fd ["script"] (spB K) := by
  obtain ⟨fd, g, F, e⟩ := says_def c KI G (d := d__law_begin) (List.mem_append_right _ List.mem_cons_self)
  refine ⟨fd, g, F.kp, (b__law_begin F (1, [], []) (by unfold p__law_begin; exact List.mem_cons_self)).1, ?_⟩
  exact begin_fn (K0 := 0) (x0 := "script") (x1 := "cells_so") (x2 := "cell") (cs := begCs) (all_h c KI G tb 0) (says_mod c KI G) F (by kernel_rfl) (by kernel_rfl) rfl
theorem facts (ev : ∀ ns : List Int, ns.length ≤ 90 → ∃ s', evCs (callF M.tab 30) c_law (env0 6) (st0 ns) = .ok (.rt (.bl true)) s') (w : PySem.World) (mg : Str → Option Value) (fa : Addr) (h : Heap) (Y : hk.says w h) (G : h.Ns mainGlobals mg) (hmg : mg ("law" : Str) = some (.ref fa)) :
    ∃ K : PySem.W.Frag, K.In h ∧ LawG PySem.Challenge.rw_leaftold_k03_whole_some_leaves_alone w K CX0 186 63 "script" mg fa h := by
  obtain ⟨K, KI, c⟩ := Y
  obtain ⟨fd, g, F, e⟩ := says_def c KI G (d := d_law) (List.mem_append_right _ (List.mem_cons_of_mem _ List.mem_cons_self))
  have ea : fa = He.ga K "law" := by
    have z := hmg.symm.trans g
    cases z
    rfl
  subst ea
  have tabs : ∀ p ∈ M.tf more, He.cT K p ∈ (M.tf more).map (He.cT K) := fun p hp => List.mem_map.mpr ⟨p, hp, rfl⟩
  refine ⟨K, KI, fd, (M.tf more).map (He.cT K), spL K (WW K mg), ⟨fun p hp => ?_, fun p hp => ?_, fun p hp => ?_⟩, fun s u => FunD.bindsA (ps := ["script"]) F (fun _ _ _ _ _ _ us hl => match us, hl with | [_], _ => by rfl) s [u] rfl, fun H a ns hn hT hS => ⟨rfl, a, ns, rfl, hS, by omega, fun T hm => ?_, fun p hm => ?_, fun _ => rfl⟩, fun base KB GB tb => ?_⟩
  · obtain ⟨r, hr, rfl⟩ := List.mem_map.mp hp
    exact c.empty r hr
  · obtain ⟨r, hr, rfl⟩ := List.mem_map.mp hp
    exact c.out r hr
  · obtain ⟨r, hr, rfl⟩ := List.mem_map.mp hp
    exact PySem.W.codeHd_of_K KI (c.hd r hr)
  · obtain ⟨r, hr, rfl⟩ := List.mem_map.mp hm
    exact hT _ (tabs r (List.mem_cons_of_mem _ hr))
  · have hm : p ∈ [((He.cT K (M.wt.1.x, none)).2, qn)] := hm
    rw [List.mem_singleton] at hm
    rw [hm]
    exact hT _ (tabs (M.wt.1.x, none) List.mem_cons_self)
  · obtain ⟨fdb, gb, kb, bb, FB⟩ := beg_h c KI G tb
    refine law_fn (n := 30) (kb := 6) (N := ["turn", "count", "forked", "got"]) (gen := false) (cs := c_law) (rest := (C8.fnBody (top 60)).tail) (all_h c KI G tb 30) (says_mod c KI G) (by decide) FB gb kb bb F (by kernel_rfl) (by kernel_rfl) rfl (fun z => (by cases z)) (fun E X o => ?_) ev
    obtain ⟨cs, hcs, key⟩ : ∃ cs, cs = c_law ∧ PSs X (C8.fnBody (top 60)).tail (tSs (WW K mg) (callF M.tab 30) cs E) := by
      refine ⟨_, ?_, (sAll d_law.ct ((comp 60).S d_law.ct) (C8.fnBody (top 60)).tail).ok E X o⟩
      kernel_rfl
    rw [hcs] at key
    exact key
end
end Lf
open PySem PySem.W
                                                                                                    PySem.Calls PyProof.Rows
theorem holds_of (ev : ∀ ns : List Int, ns.length ≤ 90 → ∃ s', Mp.evCs (Mp.callF Lf.M.tab 30) Lf.c_law (Mp.env0 6) (Mp.st0 ns) = .ok (.rt (.bl true)) s') : PySem.Challenge.rw_leaftold_k03_whole_some_leaves_alone.Holds := by
  w_on; o_law
  refine HandSHeadRun.head_any (r := Lf.RR) (q := view Lf.RR.prog [60]) (H := Lf.hk) (ob := Lf.ob) (M := 20000) (loose := Lf.lo) (d := HandSHeadRun.topDef Lf.RR.prog 60) (kwd := []) Lf.ob_eq (by kernel_rfl) (fun s => by kernel_rfl) Lf.run (by kernel_rfl) (by kernel_rfl) (by kernel_rfl) (by rfl) (by first | assumption | decide +kernel) (by decide +kernel)
    ⟨rfl, rfl, rfl, rfl, rfl, by decide +kernel⟩ ?hw ?hc
  case hw => w_witness2
  case hc =>
    refine Mp.walk_g (l := PySem.Challenge.rw_leaftold_k03_whole_some_leaves_alone) (n := 63) (k := 186) (x := "script") (CX := L2.CX0) rfl (by decide) (by kernel_rfl) ⟨⟨rfl, by decide, by decide⟩, rfl⟩ (fun w mg fa h Y G hm => ?_) (fun _ _ _ _ z => z)
    have e : (HandSHeadRun.topDef Lf.RR.prog 60).name = ("law" : PySem.Str) := by kernel_rfl
    rw [e] at hm
    exact Lf.facts ev w mg fa h Y G hm
end
section
namespace Lf
open PySem Mp
def lwB : List C := [(.asg (.nm 3) (.call "_law_count" [(.var 1), (.con (.int 3)), (.con (.int 12))] [])), (.asg (.nm 4) (.cmp .Eq (.call "_law_draw" [(.var 1), (.con (.int 2))] []) (.con (.int 0)))), (.iff (.nt (.call "_law_right" [(.var 1), (.call "_law_tree" [(.var 1), (.var 3), (.var 4)] []), (.call "_law_rooted" [(.var 1), (.var 3), (.var 4)] [])] [])) [(.ret (.con (.bl false)))] [])]
abbrev lE (a b d e : Option Slot) : Mp.Env := [none, some (.st, false), a, b, d, e]
theorem getE_none (ρ : Mp.Env) (i : Nat) : getE (none :: ρ) (i + 1) = getE ρ i := getE_succ _ _ _
theorem law_turn (n : Nat) (a b d e : Option Slot) : Runs (evCs (callF M.tab (n + 12)) lwB (lE a b d e)) 700 fun o => ∃ ρ', o = .nx ρ' ∧ ∃ b d, ρ' = lE a b d e := by
  unfold lwB
  refine Runs.mono (Runs.cs (b := 1) (k := 650) (I := fun ρ' => ∃ c : Nat, (3 ≤ c ∧ c ≤ 12) ∧ ρ' = lE a (some (nD c, false)) d e) (P := fun o => ∃ ρ', o = .nx ρ' ∧ ∃ b d, ρ' = lE a b d e) ?_ ?_) (by decide) fun _ z => z
  · have e1 : ev (callF M.tab (n + 12)) (lE a b d e) (.call "_law_count" [(.var 1), (.con (.int 3)), (.con (.int 12))] []) = Γ (n + 12) "_law_count" [.st, .int (3 : Nat), .int (12 : Nat)] := by
      rw [ev]
      simp only [evs, ev, getE_zero, getE_succ, ofR, bndR, permL]
      rfl
    refine Runs.mono (Runs.asg (Runs.of_eq e1 (f__law_count (n + 9) 3 12 (by decide) (by decide)))) (Nat.le_refl _) ?_
    rintro o ⟨ρ', rfl, d', ⟨c, h3, h12, rfl⟩, rfl⟩
    rw [after_im rfl]
    exact ⟨_, rfl, c, ⟨h3, h12⟩, rfl⟩
  rintro ρ' ⟨c, ⟨h3, h12⟩, rfl⟩
  refine Runs.mono (Runs.cs (b := 1) (k := 640) (I := fun ρ' => ∃ fk : Bool, ρ' = lE a (some (nD c, false)) (some (.bl fk, false)) e) (P := fun o => ∃ ρ', o = .nx ρ' ∧ ∃ b d, ρ' = lE a b d e) ?_ ?_) (by decide) fun _ z => z
  · have e1 : ev (callF M.tab (n + 12)) (lE a (some (nD c, false)) d e) (.cmp .Eq (.call "_law_draw" [(.var 1), (.con (.int 2))] []) (.con (.int 0))) = bnd (Γ (n + 12) "_law_draw" [.st, .int (2 : Nat)]) fun x => bnd (ofO (cmpD .Eq x (.int 0))) fun c => ret (.bl c) := by
      rw [ev, ev]
      simp only [evs, ev, getE_zero, getE_succ, ofR, bndR, permL]
      rfl
    refine Runs.mono (Runs.asg (P := fun d => ∃ fk : Bool, d = .bl fk) (Runs.of_eq e1 (Runs.bnd0 (f__law_draw (n + 10) 2 (by decide) (by decide)) ?_))) (Nat.le_refl _) ?_
    · rintro d' ⟨r, hr, rfl⟩
      rw [c_eq, ofR, bndR]
      exact Runs.ret ⟨_, rfl⟩
    · rintro o ⟨ρ', rfl, d', ⟨fk, rfl⟩, rfl⟩
      rw [after_im rfl]
      exact ⟨_, rfl, fk, rfl⟩
  rintro ρ' ⟨fk, rfl⟩
  have et : tst (callF M.tab (n + 12)) (lE a (some (nD c, false)) (some (.bl fk, false)) e) (.nt (.call "_law_right" [(.var 1), (.call "_law_tree" [(.var 1), (.var 3), (.var 4)] []), (.call "_law_rooted" [(.var 1), (.var 3), (.var 4)] [])] [])) =
      bnd (bnd (bnd (bnd (Γ (n + 12) "_law_tree" [.st, .int c, .bl fk]) fun x => bnd (bnd (Γ (n + 12) "_law_rooted" [.st, .int c, .bl fk]) fun y => ret [y]) fun xs => ret (x :: xs)) fun xs => ret (D.st :: xs)) fun ds => bnd (ofO (permL [] ds)) fun as => bnd (callF M.tab (n + 12) "_law_right" as) fun x => ofO (truthD x)) fun b => ret (!b) := by
    rw [tst, tst]
    simp only [evs, ev, getE_zero, getE_succ, ofR, bndR, permL]
  have rt : Runs (tst (callF M.tab (n + 12)) (lE a (some (nD c, false)) (some (.bl fk, false)) e) (.nt (.call "_law_right" [(.var 1), (.call "_law_tree" [(.var 1), (.var 3), (.var 4)] []), (.call "_law_rooted" [(.var 1), (.var 3), (.var 4)] [])] []))) 600 fun b => b = false := by
    rw [et]
    have r2 : Runs (bnd (bnd (Γ (n + 12) "_law_tree" [.st, .int c, .bl fk]) fun x => bnd (bnd (Γ (n + 12) "_law_rooted" [.st, .int c, .bl fk]) fun y => ret [y]) fun xs => ret (x :: xs)) fun xs => ret (D.st :: xs)) 400 fun ds => ∃ A R, Spl c A ∧ Clu c R ∧ ds = [.st, eT c A, eT c R] := by
      have r1 : Runs (bnd (Γ (n + 12) "_law_tree" [.st, .int c, .bl fk]) fun x => bnd (bnd (Γ (n + 12) "_law_rooted" [.st, .int c, .bl fk]) fun y => ret [y]) fun xs => ret (x :: xs)) 400 fun ds => ∃ A R, Spl c A ∧ Clu c R ∧ ds = [eT c A, eT c R] := by
        refine Runs.mono (Runs.bnd (b := 200) (c := 200) (f__law_tree (n + 5) c h3 h12 fk) (Q := fun ds => ∃ A R, Spl c A ∧ Clu c R ∧ ds = [eT c A, eT c R]) ?_) (by decide) fun _ z => z
        rintro d1 ⟨A, hA, rfl⟩
        have r0 : Runs (bnd (Γ (n + 12) "_law_rooted" [.st, .int c, .bl fk]) fun y => ret [y]) 200 fun ds => ∃ R, Clu c R ∧ ds = [eT c R] := by
          refine Runs.bnd0 (f__law_rooted (n + 5) c h3 h12 fk) ?_
          rintro d2 ⟨R, hR, rfl⟩
          exact Runs.ret ⟨R, hR, rfl⟩
        refine Runs.bnd0 r0 ?_
        rintro d2 ⟨R, hR, rfl⟩
        exact Runs.ret ⟨A, R, hA, hR, rfl⟩
      refine Runs.bnd0 r1 ?_
      rintro ds ⟨A, R, hA, hR, rfl⟩
      exact Runs.ret ⟨A, R, hA, hR, rfl⟩
    have r3 : Runs (bnd (bnd (bnd (Γ (n + 12) "_law_tree" [.st, .int c, .bl fk]) fun x => bnd (bnd (Γ (n + 12) "_law_rooted" [.st, .int c, .bl fk]) fun y => ret [y]) fun xs => ret (x :: xs)) fun xs => ret (D.st :: xs)) fun ds => bnd (ofO (permL [] ds)) fun as => bnd (callF M.tab (n + 12) "_law_right" as) fun x => ofO (truthD x)) 600 fun b => b = true := by
      refine Runs.mono (Runs.bnd (b := 400) (c := 200) r2 (Q := fun b => b = true) ?_) (by decide) fun _ z => z
      rintro ds ⟨A, R, hA, hR, rfl⟩
      rw [permL, ofR, bndR]
      refine Runs.bnd0 (f__law_right n c A R h3 h12 hA hR) ?_
      rintro d rfl
      rw [tr_bl, ofR]
      exact Runs.ret rfl
    refine Runs.bnd0 r3 ?_
    rintro b rfl
    exact Runs.ret rfl
  rw [evCs, evC]
  refine Runs.mono (Runs.bnd0 (Runs.bnd0 rt (Q := fun o => o = Out.nx (lE a (some (nD c, false)) (some (.bl fk, false)) e)) ?_) (Q := fun o => ∃ ρ', o = .nx ρ' ∧ ∃ b d, ρ' = lE a b d e) ?_) (by decide) fun _ z => z
  · rintro b rfl
    rw [if_neg (by decide), evCs]
    exact Runs.ret rfl
  · rintro o rfl
    dsimp only
    rw [evCs]
    exact Runs.ret ⟨_, rfl, _, _, rfl⟩
def A0 : Fam := [[1, 2], [1, 2, 3]]
def R0 : Fam := [[0, 1], [0, 1, 2]]
theorem law_end (n : Nat) (a b d e : Option Slot) : Runs (evCs (callF M.tab (n + 12)) [(.asg (.nm 5) (.lst [(.call "restricted" [(.tup [(.con (.int 5)), (.tup [(.tup [(.con (.int 1)), (.con (.int 2))]), (.tup [(.con (.int 1)), (.con (.int 2)), (.con (.int 3))])])]), (.tup [(.con (.int 0)), (.con (.int 2)), (.con (.int 3)), (.con (.int 4))])] []), (.call "restricted_rooted" [(.tup [(.con (.int 4)), (.tup [(.tup [(.con (.int 0)), (.con (.int 1))]), (.tup [(.con (.int 0)), (.con (.int 1)), (.con (.int 2))])])]), (.tup [(.con (.int 1)), (.con (.int 2)), (.con (.int 3))])] [])])), (.ret (.call "_law_like" [(.var 5), (.lst [(.tup [(.con (.int 4)), (.tup [(.tup [(.con (.int 1)), (.con (.int 2))])])]), (.tup [(.con (.int 3)), (.tup [(.tup [(.con (.int 0)), (.con (.int 1))])])])])] []))] (lE a b d e)) 0 fun o => o = .rt (.bl true) := by
  have hA : Spl 5 A0 := by
    refine ⟨fun s hs => ?_, ?_, ?_, by decide⟩
    · simp only [A0, List.mem_cons, List.mem_nil_iff, or_false] at hs
      rcases hs with rfl | rfl <;> exact ⟨⟨by decide, by decide⟩, by decide, by decide, by decide⟩
    · exact List.pairwise_cons.mpr ⟨fun s hs => by rw [List.mem_singleton.mp hs]; exact .inl (by decide), List.pairwise_singleton _ _⟩
    · exact List.pairwise_cons.mpr ⟨fun s hs => by rw [List.mem_singleton.mp hs]; exact .inr (.inl (by decide)), List.pairwise_singleton _ _⟩
  have hR : Clu 4 R0 := by
    refine ⟨fun s hs => ?_, ?_, ?_, by decide⟩
    · simp only [R0, List.mem_cons, List.mem_nil_iff, or_false] at hs
      rcases hs with rfl | rfl <;> exact ⟨⟨by decide, by decide⟩, by decide, by decide⟩
    · exact List.pairwise_cons.mpr ⟨fun s hs => by rw [List.mem_singleton.mp hs]; exact .inl (by decide), List.pairwise_singleton _ _⟩
    · exact List.pairwise_cons.mpr ⟨fun s hs => by rw [List.mem_singleton.mp hs]; exact .inr (.inl (by decide)), List.pairwise_singleton _ _⟩
  have g1 : IsSet 5 [0, 2, 3, 4] := ⟨by decide, by decide⟩
  have g2 : IsSet 4 [1, 2, 3] := ⟨by decide, by decide⟩
  have q1 := f_restricted (n + 1) 5 A0 [0, 2, 3, 4] (by decide) (by decide) hA g1 (by decide) (rs_ne g1 fun t ht => (hA.is t ht).set)
  have q2 := f_restricted_rooted (n + 1) 4 R0 [1, 2, 3] (by decide) (by decide) hR g2 (by decide)
  have v1 : rs [0, 2, 3, 4] A0 = [[1, 2]] := by decide +kernel
  have v2 : rr [1, 2, 3] R0 = [[0, 1]] := by decide +kernel
  rw [v1] at q1
  rw [v2] at q2
  let L2 : List (Nat × Fam) := [(4, [[1, 2]]), (3, [[0, 1]])]
  have lk := like_Ts (n + 11) (xs := L2) (fun p hp => by
    simp only [L2, List.mem_cons, List.mem_nil_iff, or_false] at hp
    rcases hp with rfl | rfl
    · exact ⟨by decide, by decide, fun s hs => by rw [List.mem_singleton.mp hs]; exact ⟨by decide, by decide⟩⟩
    · exact ⟨by decide, by decide, fun s hs => by rw [List.mem_singleton.mp hs]; exact ⟨by decide, by decide⟩⟩) (by decide)
  unfold Γ at q1 q2 lk
  have two : (2 : Nat) ≤ sizeLine := by decide
  have three : (3 : Nat) ≤ sizeLine := by decide
  have four : (4 : Nat) ≤ sizeLine := by decide
  have one : (1 : Nat) ≤ sizeLine := by decide
  have c1 : D.tup [.int 5, .tup [.tup [.int 1, .int 2], .tup [.int 1, .int 2, .int 3]]] = eT 5 A0 := rfl
  have c2 : D.tup [.int 0, .int 2, .int 3, .int 4] = eS [0, 2, 3, 4] := rfl
  have c3 : D.tup [.int 4, .tup [.tup [.int 0, .int 1], .tup [.int 0, .int 1, .int 2]]] = eT 4 R0 := rfl
  have c4 : D.tup [.int 1, .int 2, .int 3] = eS [1, 2, 3] := rfl
  have e1 : ev (callF M.tab (n + 12)) (lE a b d e) (.lst [(.call "restricted" [(.tup [(.con (.int 5)), (.tup [(.tup [(.con (.int 1)), (.con (.int 2))]), (.tup [(.con (.int 1)), (.con (.int 2)), (.con (.int 3))])])]), (.tup [(.con (.int 0)), (.con (.int 2)), (.con (.int 3)), (.con (.int 4))])] []), (.call "restricted_rooted" [(.tup [(.con (.int 4)), (.tup [(.tup [(.con (.int 0)), (.con (.int 1))]), (.tup [(.con (.int 0)), (.con (.int 1)), (.con (.int 2))])])]), (.tup [(.con (.int 1)), (.con (.int 2)), (.con (.int 3))])] [])]) = ret (eTs L2) := by
    have k1 : ev (callF M.tab (n + 12)) (lE a b d e) (.tup [(.con (.int 5)), (.tup [(.tup [(.con (.int 1)), (.con (.int 2))]), (.tup [(.con (.int 1)), (.con (.int 2)), (.con (.int 3))])])]) = ret (eT 5 A0) := by
      simp only [evs, ev, bndR, List.length_cons, List.length_nil, Nat.reduceAdd, one, two, three, four, if_true, c1]
    have k2 : ev (callF M.tab (n + 12)) (lE a b d e) (.tup [(.con (.int 0)), (.con (.int 2)), (.con (.int 3)), (.con (.int 4))]) = ret (eS [0, 2, 3, 4]) := by
      simp only [evs, ev, bndR, List.length_cons, List.length_nil, Nat.reduceAdd, one, two, three, four, if_true, c2]
    have k3 : ev (callF M.tab (n + 12)) (lE a b d e) (.tup [(.con (.int 4)), (.tup [(.tup [(.con (.int 0)), (.con (.int 1))]), (.tup [(.con (.int 0)), (.con (.int 1)), (.con (.int 2))])])]) = ret (eT 4 R0) := by
      simp only [evs, ev, bndR, List.length_cons, List.length_nil, Nat.reduceAdd, one, two, three, four, if_true, c3]
    have k4 : ev (callF M.tab (n + 12)) (lE a b d e) (.tup [(.con (.int 1)), (.con (.int 2)), (.con (.int 3))]) = ret (eS [1, 2, 3]) := by
      simp only [evs, ev, bndR, List.length_cons, List.length_nil, Nat.reduceAdd, one, two, three, four, if_true, c4]
    have k5 : ev (callF M.tab (n + 12)) (lE a b d e) (.call "restricted" [(.tup [(.con (.int 5)), (.tup [(.tup [(.con (.int 1)), (.con (.int 2))]), (.tup [(.con (.int 1)), (.con (.int 2)), (.con (.int 3))])])]), (.tup [(.con (.int 0)), (.con (.int 2)), (.con (.int 3)), (.con (.int 4))])] []) = ret (eT 4 [[1, 2]]) := by
      rw [ev, evs, evs, evs, k1, k2, bndR, bndR, bndR, bndR, bndR, permL, ofR, bndR]
      exact q1
    have k6 : ev (callF M.tab (n + 12)) (lE a b d e) (.call "restricted_rooted" [(.tup [(.con (.int 4)), (.tup [(.tup [(.con (.int 0)), (.con (.int 1))]), (.tup [(.con (.int 0)), (.con (.int 1)), (.con (.int 2))])])]), (.tup [(.con (.int 1)), (.con (.int 2)), (.con (.int 3))])] []) = ret (eT 3 [[0, 1]]) := by
      rw [ev, evs, evs, evs, k3, k4, bndR, bndR, bndR, bndR, bndR, permL, ofR, bndR]
      exact q2
    rw [ev, evs, evs, evs, k5, k6, bndR, bndR, bndR, bndR, bndR, if_pos (by exact two)]
    rfl
  have e2 : ev (callF M.tab (n + 12)) (lE a b d (some (eTs L2, true))) (.lst [(.tup [(.con (.int 4)), (.tup [(.tup [(.con (.int 1)), (.con (.int 2))])])]), (.tup [(.con (.int 3)), (.tup [(.tup [(.con (.int 0)), (.con (.int 1))])])])]) = ret (eTs L2) := by
    have c5 : D.lst [.tup [.int 4, .tup [.tup [.int 1, .int 2]]], .tup [.int 3, .tup [.tup [.int 0, .int 1]]]] = eTs L2 := rfl
    simp only [evs, ev, bndR, List.length_cons, List.length_nil, Nat.reduceAdd, one, two, three, four, if_true, c5]
  have s1 : evC (callF M.tab (n + 12)) (.asg (.nm 5) (.lst [(.call "restricted" [(.tup [(.con (.int 5)), (.tup [(.tup [(.con (.int 1)), (.con (.int 2))]), (.tup [(.con (.int 1)), (.con (.int 2)), (.con (.int 3))])])]), (.tup [(.con (.int 0)), (.con (.int 2)), (.con (.int 3)), (.con (.int 4))])] []), (.call "restricted_rooted" [(.tup [(.con (.int 4)), (.tup [(.tup [(.con (.int 0)), (.con (.int 1))]), (.tup [(.con (.int 0)), (.con (.int 1)), (.con (.int 2))])])]), (.tup [(.con (.int 1)), (.con (.int 2)), (.con (.int 3))])] [])])) (lE a b d e) = ret (.nx (lE a b d (some (eTs L2, true)))) := by
    rw [evC, e1, bndR, after_Ts rfl]
    rfl
  have e3 : ev (callF M.tab (n + 12)) (lE a b d (some (eTs L2, true))) (.call "_law_like" [(.var 5), (.lst [(.tup [(.con (.int 4)), (.tup [(.tup [(.con (.int 1)), (.con (.int 2))])])]), (.tup [(.con (.int 3)), (.tup [(.tup [(.con (.int 0)), (.con (.int 1))])])])])] []) = ret (.bl true) := by
    rw [ev, evs, evs, evs, ev, e2]
    simp only [getE_zero, getE_succ, ofR, bndR, permL]
    exact lk
  rw [cs_nx s1, evCs, evC, e3, bndR, bndR]
  exact Runs.ret rfl
theorem ev_all (ns : List Int) : ∃ s', evCs (callF M.tab 30) c_law (env0 6) (st0 ns) = .ok (.rt (.bl true)) s' := by
  have ec : c_law = .for_ (.nm 2) .rng [(.con (.int 5))] lwB :: [(.asg (.nm 5) (.lst [(.call "restricted" [(.tup [(.con (.int 5)), (.tup [(.tup [(.con (.int 1)), (.con (.int 2))]), (.tup [(.con (.int 1)), (.con (.int 2)), (.con (.int 3))])])]), (.tup [(.con (.int 0)), (.con (.int 2)), (.con (.int 3)), (.con (.int 4))])] []), (.call "restricted_rooted" [(.tup [(.con (.int 4)), (.tup [(.tup [(.con (.int 0)), (.con (.int 1))]), (.tup [(.con (.int 0)), (.con (.int 1)), (.con (.int 2))])])]), (.tup [(.con (.int 1)), (.con (.int 2)), (.con (.int 3))])] [])])), (.ret (.call "_law_like" [(.var 5), (.lst [(.tup [(.con (.int 4)), (.tup [(.tup [(.con (.int 1)), (.con (.int 2))])])]), (.tup [(.con (.int 3)), (.tup [(.tup [(.con (.int 0)), (.con (.int 1))])])])])] []))] := rfl
  have e0 : env0 6 = lE none none none none := rfl
  have it5 : itD .rng [.int 5] = some ((List.range 5).map nD) := it_rng0 5 (by decide)
  have m0 : mutDs [D.int 5] = false := by simp [mutDs]
  have e1 : evC (callF M.tab 30) (.for_ (.nm 2) .rng [(.con (.int 5))] lwB) (lE none none none none) = loopC (fun d ρ => bnd (ofO (bindG (.nm 2) d ρ)) fun ρ' => evCs (callF M.tab 30) lwB ρ') ((List.range 5).map nD) (lE none none none none) := by
    rw [evC]
    simp only [evs, ev, ofR, bndR, it5, afters, m0, if_false, Bool.false_eq_true]
  have lp := Runs.loop (h := nD) (f := fun d ρ => bnd (ofO (bindG (.nm 2) d ρ)) fun ρ' => evCs (callF M.tab 30) lwB ρ') (xs := List.range 5) (b := 700) (I := fun _ ρ => ∃ a b d, ρ = lE a b d none) (fun pre x post ep ρ hi => by
    obtain ⟨a, b, d, rfl⟩ := hi
    show Runs (bnd (ofO (bindG (.nm 2) (nD x) _)) _) 700 _
    rw [bG_nm, ofR, bndR]
    dsimp only [List.set]
    refine Runs.mono (law_turn 18 _ b d none) (Nat.le_refl _) ?_
    rintro o ⟨ρ', rfl, b', d', rfl⟩
    exact ⟨_, rfl, _, b', d', rfl⟩) (lE none none none none) ⟨none, none, none, rfl⟩
  have r : Runs (evCs (callF M.tab 30) c_law (env0 6)) 4000 fun o => o = .rt (.bl true) := by
    rw [ec, e0]
    refine Runs.mono (Runs.cs (b := 3500) (k := 0) (I := fun ρ => ∃ a b d, ρ = lE a b d none) (P := fun o => o = .rt (.bl true)) ?_ ?_) (by decide) fun _ z => z
    · rw [e1]
      exact Runs.mono lp (by decide) fun _ z => z
    · rintro ρ' ⟨a, b, d, rfl⟩
      exact law_end 18 a b d none
  have ok : SOk (st0 ns) := by
    refine ⟨?_, ?_, Int.le_refl 0⟩
    · show cells0 ns ≠ []
      unfold cells0
      split
      · simp
      · assumption
    · show (lefts0 ns).length = (cells0 ns).length
      unfold lefts0
      rw [List.length_map]
  obtain ⟨o, s', h, _, _, rfl⟩ := r (st0 ns) ok (by show (0 : Int) + _ ≤ _; omega)
  exact ⟨s', h⟩
theorem holds : PySem.Challenge.rw_leaftold_k03_whole_some_leaves_alone.Holds := holds_of fun ns _ => ev_all ns
end Lf
end
theorem PySem.Challenge.cw_leaftold_k03_whole_some_leaves_alone_holds : PySem.Challenge.rw_leaftold_k03_whole_some_leaves_alone.Holds := by
  exact Lf.holds
