import PyProof.Rows.All
import HandS.CallSlots
import HandS.Conv
import HandS.Defaults
import HandS.EndTab
import HandS.ExcField
import HandS.ExcInit
import HandS.ForExc
import HandS.ForMost
import HandS.Head0
import HandS.Head1
import HandS.Head2
import HandS.HeadEnd
import HandS.HeadHook4
import HandS.HeadWalk
import HandS.IsInst
import HandS.Lambda
import HandS.MakeKwOnly
import HandS.TryMany
import HandS.TupAny
import HandS.TupMul
import HandS.Walk
import HandS.Wide
import HandS.WordsExc
import HandS.Zip
import KE.DatumOrd
import KE.GoesMore
import KE.GoesNew
import KE.KNestM
import KE.KExcInit
import KE.KStateDown
import KE.KTupSum
import OpenK.AllK
import PyProof.EnumMake
import Wide.All
import Wide.FinOn
import HandS.HeadHook1
import HandS.Strs
import PyProof.TupleOfSeq
import HandS.StrMore
import HandS.Style
import HandS.Dict
import HandS.WordsDict
import HandS.DictTup
import KE.KDictDisplayH
import HandS.Rev
import HandS.Deep
import KE.SortData
import HandS.SetFor
import HandS.Iter
import HandS.TupLe
import HandS.FStr
import KE.LtData
import KE.DataFind
import KE.KDictZip
import HandS.TupSets
import HandS.SetBool
import KE.DataCmp
import KE.KUnpackStar
import KE.DataMinMax
import HandS.SortKw
import PySem.Challenge.RW_hamperlot_k06_lots_written_and_read
import HandS.OwnEq
import OpenK.KOps
import KE.KCallOwn
import KE.KFmtOwn
import PyProof.InstEq
import HandS.RaiseMore
set_option Elab.async false
set_option linter.all false
set_option maxRecDepth 100000
set_option maxHeartbeats 0
namespace MP
abbrev Sy := List Nat
/-- the longest list, tuple, text -/
def LIM : Nat := 16777216
inductive D where
  | non | bl (b : Bool) | int (i : Int) | str (s : Sy)
  | tup (xs : List D) | lst (xs : List D) | dct (ks vs : List D) | ref (n : Nat)
inductive Cn where
  | lst (xs : List D) | dct (kvs : List (List Int × D)) | ins (cls : Nat) (ns : List Sy) (vs : List D)
structure Ob where
  w : Bool
  c : Cn
abbrev Sto := List Ob
mutual
def D.eq : D → D → Bool
  | .non, .non => true
  | .bl a, .bl b => a == b
  | .int a, .int b => a == b
  | .str a, .str b => a == b
  | .tup a, .tup b => D.eqs a b
  | .lst a, .lst b => D.eqs a b
  | .dct a b, .dct c d => D.eqs a c && D.eqs b d
  | .ref a, .ref b => a == b
  | _, _ => false
def D.eqs : List D → List D → Bool
  | [], [] => true
  | a :: r, b :: s => D.eq a b && D.eqs r s
  | _, _ => false
end
mutual
theorem D.eq_iff : ∀ a b : D, D.eq a b = true ↔ a = b
  | .non, b => by cases b <;> simp [D.eq]
  | .bl x, b => by cases b <;> simp [D.eq]
  | .int x, b => by cases b <;> simp [D.eq]
  | .str x, b => by cases b <;> simp [D.eq]
  | .tup x, b => by cases b <;> simp [D.eq, D.eqs_iff x]
  | .lst x, b => by cases b <;> simp [D.eq, D.eqs_iff x]
  | .dct x y, b => by cases b <;> simp [D.eq, D.eqs_iff x, D.eqs_iff y]
  | .ref x, b => by cases b <;> simp [D.eq]
theorem D.eqs_iff : ∀ a b : List D, D.eqs a b = true ↔ a = b
  | [], b => by cases b <;> simp [D.eqs]
  | x :: r, b => by cases b <;> simp [D.eqs, D.eq_iff x, D.eqs_iff r]
end
instance : DecidableEq D := fun a b => decidable_of_iff _ (D.eq_iff a b)
def Cn.eq : Cn → Cn → Bool
  | .lst a, .lst b => a == b
  | .dct a, .dct c => a == c
  | .ins a b c, .ins d e f => a == d && b == e && c == f
  | _, _ => false
theorem Cn.eq_iff : ∀ a b : Cn, Cn.eq a b = true ↔ a = b := fun a b => by cases a <;> cases b <;> simp [Cn.eq, and_assoc]
instance : DecidableEq Cn := fun a b => decidable_of_iff _ (Cn.eq_iff a b)
def Ob.eq (a b : Ob) : Bool := a.w == b.w && decide (a.c = b.c)
theorem Ob.eq_iff (a b : Ob) : Ob.eq a b = true ↔ a = b := by cases a; cases b; simp [Ob.eq]
instance : DecidableEq Ob := fun a b => decidable_of_iff _ (Ob.eq_iff a b)
inductive R (α : Type) where
  | ok (a : α) (s : Sto)
  | exc (c : Nat) (ns : List Sy) (vs : List D) (s : Sto)
  | bad
abbrev M (α : Type) := Sto → R α
def pu {α} (a : α) : M α := fun s => .ok a s
def no {α} : M α := fun _ => .bad
def rz {α} (c : Nat) (ns : List Sy) (vs : List D) : M α := fun s => .exc c ns vs s
def bd {α β} (m : M α) (k : α → M β) : M β := fun s => match m s with
  | .ok a s' => k a s'
  | .exc c ns vs s' => .exc c ns vs s'
  | .bad => .bad
@[simp] theorem bd_pu {α β} (a : α) (k : α → M β) : bd (pu a) k = k a := rfl
@[simp] theorem bd_no {α β} (k : α → M β) : bd no k = no := rfl
@[simp] theorem bd_rz {α β} (c ns vs) (k : α → M β) : bd (rz c ns vs) k = rz c ns vs := rfl
@[simp] theorem bd_bd {α β γ} (m : M α) (k : α → M β) (l : β → M γ) : bd (bd m k) l = bd m fun a => bd (k a) l := by
  funext s; simp only [bd]; cases m s <;> rfl
/-- inside a comprehension nothing may be raised -/
def nx {α} (m : M α) : M α := fun s => match m s with
  | .exc _ _ _ _ => .bad
  | r => r
@[simp] theorem nx_pu {α} (a : α) : nx (pu a) = pu a := rfl
/-- a slot: empty, a value, the error that an except suite has in hand, the lambda that the def was handed -/
inductive Sl where
  | un | va (d : D) | ex | fu
abbrev En := List Sl
abbrev E := En → M D
abbrev T := En → M Bool
abbrev Es := En → M (List D)
def vE (i : Nat) : E := fun e => match e[i]? with
  | some (.va d) => pu d
  | _ => no
def cE (d : D) : E := fun _ => pu d
def nilA : Es := fun _ => pu []
def consA (a : E) (r : Es) : Es := fun e => bd (a e) fun x => bd (r e) fun xs => pu (x :: xs)
def tupO (xs : List D) : M D := if xs.length ≤ LIM then pu (.tup xs) else no
def tupE (a : Es) : E := fun e => bd (a e) tupO
/-- a new list, its items; frozen, or laid in the store -/
def lstF (a : Es) : Es := fun e => bd (a e) fun xs => if xs.length ≤ LIM then pu xs else no
def frzE (a : Es) : E := fun e => bd (a e) fun xs => pu (.lst xs)
def newO (c : Cn) : M D := fun s => .ok (.ref s.length) (s ++ [⟨true, c⟩])
def newE (a : Es) : E := fun e => bd (a e) fun xs => newO (.lst xs)
def binE (o : D → D → M D) (a b : E) : E := fun e => bd (a e) fun x => bd (b e) fun y => o x y
def unE (o : D → M D) (a : E) : E := fun e => bd (a e) o
def addO : D → D → M D
  | .int i, .int j => pu (.int (i + j))
  | .str x, .str y => if x.length + y.length ≤ LIM then pu (.str (x ++ y)) else no
  | .tup x, .tup y => if x.length + y.length ≤ LIM then pu (.tup (x ++ y)) else no
  | _, _ => no
def subO : D → D → M D
  | .int i, .int j => pu (.int (i - j))
  | _, _ => no
def mulOk (i j : Int) : Bool := decide (i.natAbs.log2 + j.natAbs.log2 < 1000000)
def mulO : D → D → M D
  | .int i, .int j => if mulOk i j then pu (.int (i * j)) else no
  | .tup x, .int k => if x ≠ [] ∧ 2 ≤ k ∧ k ≤ 1000 ∧ x.length ≤ 1000 then pu (.tup (List.replicate k.toNat x).flatten) else
      if x ≠ [] ∧ k = 1 then pu (.tup x) else if x ≠ [] ∧ k ≤ 0 ∧ -1000000 ≤ k then pu (.tup []) else no
  | _, _ => no
def fdivO : D → D → M D
  | .int i, .int j => if 0 < j ∧ j.natAbs.log2 < 9000 then pu (.int (i / j)) else if j ≠ 0 ∧ j.natAbs.log2 < 9000 then pu (.int (i.fdiv j)) else no
  | _, _ => no
def modO : D → D → M D
  | .int i, .int j => if 0 < j then pu (.int (i % j)) else if j ≠ 0 then pu (.int (i.fmod j)) else no
  | _, _ => no
def powO : D → D → M D
  | .int i, .int j => if 0 ≤ j ∧ j ≤ 1000000 ∧ i.natAbs < 2 ^ 64 then pu (.int (i ^ j.toNat)) else no
  | _, _ => no
def negO : D → M D
  | .int i => pu (.int (-i))
  | _ => no
def ltO : D → D → M D
  | .int i, .int j => pu (.bl (decide (i < j)))
  | .str x, .str y => pu (.bl (decide (x < y)))
  | _, _ => no
def leO : D → D → M D
  | .int i, .int j => pu (.bl (decide (i ≤ j)))
  | .str x, .str y => pu (.bl (decide (x ≤ y)))
  | _, _ => no
def gtO : D → D → M D
  | .int i, .int j => pu (.bl (decide (j < i)))
  | _, _ => no
def geO : D → D → M D
  | .int i, .int j => pu (.bl (decide (j ≤ i)))
  | _, _ => no
def isnO : D → M D := fun d => pu (.bl (decide (d = .non)))
def notnO : D → M D := fun d => pu (.bl (!decide (d = .non)))
def itemsO : D → M (List D)
  | .tup xs => pu xs
  | .lst xs => pu xs
  | .ref n => fun s => match s[n]? with
    | some ⟨_, .lst xs⟩ => .ok xs s
    | _ => .bad
  | _ => no
mutual
/-- what == compares: no dicts, no objects; k: how deep -/
def shp (k : Nat) : D → Bool
  | .non => true
  | .bl _ => true
  | .int _ => true
  | .str x => x.all (· < 0x110000)
  | .tup xs => match k with
    | 0 => false
    | k + 1 => shps k xs
  | .lst xs => match k with
    | 0 => false
    | k + 1 => shps k xs
  | _ => false
def shps (k : Nat) : List D → Bool
  | [] => true
  | d :: r => shp k d && shps k r
end
mutual
def pyEq : D → D → Bool
  | .bl a, .int j => (if a then 1 else 0) == j
  | .int i, .bl b => i == (if b then 1 else 0)
  | .non, .non => true
  | .bl a, .bl b => a == b
  | .int a, .int b => a == b
  | .str a, .str b => a == b
  | .tup a, .tup b => pyEqs a b
  | .lst a, .lst b => pyEqs a b
  | _, _ => false
def pyEqs : List D → List D → Bool
  | [], [] => true
  | a :: r, b :: s => pyEq a b && pyEqs r s
  | _, _ => false
end
mutual
def noRef : D → Bool
  | .tup xs => noRefs xs
  | .lst xs => noRefs xs
  | .dct ks vs => noRefs ks && noRefs vs
  | .ref _ => false
  | _ => true
def noRefs : List D → Bool
  | [] => true
  | d :: r => noRef d && noRefs r
end
/-- a reference to a list read off the store -/
def deepO (s : Sto) : D → Option D
  | .ref n => match s[n]? with
    | some ⟨_, .lst xs⟩ => if noRefs xs then some (.lst xs) else none
    | _ => none
  | d => if noRef d then some d else none
/-- == of data -/
def eqO (x y : D) : M D := fun s => match deepO s x, deepO s y with
  | some a, some b => if shp 60 a && shp 60 b then .ok (.bl (pyEq a b)) s else .bad
  | _, _ => .bad
def neO (x y : D) : M D := fun s => match deepO s x, deepO s y with
  | some a, some b => if shp 60 a && shp 60 b then .ok (.bl (!pyEq a b)) s else .bad
  | _, _ => .bad
/-- flat things: what «in» looks for -/
def flatD : D → Bool
  | .non => true
  | .bl _ => true
  | .int _ => true
  | .str _ => true
  | _ => false
def inStr (neg : Bool) (x : D) (z : Sy) : M D := match x with
  | .str [c] => pu (.bl (if neg then !decide (c ∈ z) else decide (c ∈ z)))
  | _ => no
def inSeq (neg : Bool) (x : D) (xs : List D) : M D := if flatD x && xs.all flatD then pu (.bl (if neg then !xs.any fun a => pyEq a x else xs.any fun a => pyEq a x)) else no
def inO (x y : D) : M D := match y with
  | .str z => inStr false x z
  | y => bd (itemsO y) (inSeq false x)
/-- a place of a row of n, counted from either end -/
def ixO (n : Nat) (i : Int) : Option Nat := if 0 ≤ i then (if i < n then some i.toNat else none) else if -(n : Int) ≤ i then some (i + n).toNat else none
def idxSeq (i : Int) (xs : List D) : M D := match (ixO xs.length i).bind fun k => xs[k]? with
  | some d => pu d
  | none => no
def idxStr (i : Int) (z : Sy) : M D := if z.length ≤ LIM then (match (ixO z.length i).bind fun k => z[k]? with
  | some c => pu (.str [c])
  | none => no) else no
def idxI (i : Int) (x : D) : M D := match x with
  | .str z => idxStr i z
  | x => bd (itemsO x) (idxSeq i)
def idxO (x y : D) : M D := match y with
  | .int i => idxI i x
  | _ => no
/-- an end of a slice -/
def endO (n d : Nat) : Option Int → Nat
  | none => d
  | some i => if i < 0 then (i + (n : Int)).toNat else min i.toNat n
def cutL {α} (xs : List α) (lo hi : Option Int) : List α := (xs.drop (endO xs.length 0 lo)).take (endO xs.length xs.length hi - endO xs.length 0 lo)
def part : Option E → En → M (Option Int)
  | none, _ => pu none
  | some a, e => bd (a e) fun d => match d with
    | .int i => pu (some i)
    | _ => no
/-- a slice of a tuple or a text -/
def slcO (l h : Option Int) : D → M D
  | .tup xs => pu (.tup (cutL xs l h))
  | .str z => if z.length ≤ LIM then pu (.str (cutL z l h)) else no
  | _ => no
def slcE (a : E) (lo hi : Option E) : E := fun e => bd (a e) fun x => bd (part lo e) fun l => bd (part hi e) fun h => slcO l h x
/-- a slice of a list: a new list -/
def slcF (a : E) (lo hi : Option E) : Es := fun e => bd (a e) fun x => bd (part lo e) fun l => bd (part hi e) fun h => match x with
  | .lst xs => pu (cutL xs l h)
  | .ref n => fun s => match s[n]? with
    | some ⟨_, .lst xs⟩ => .ok (cutL xs l h) s
    | _ => .bad
  | _ => no
def truO : D → M Bool
  | .bl b => pu b
  | .non => pu false
  | .int i => pu (i != 0)
  | .str z => if z.length ≤ LIM then pu (!z.isEmpty) else no
  | .tup xs => pu (!xs.isEmpty)
  | .lst xs => pu (!xs.isEmpty)
  | .ref n => fun s => match s[n]? with
    | some ⟨_, .lst xs⟩ => .ok (!xs.isEmpty) s
    | _ => .bad
  | _ => no
/-- a value as a test -/
def tst (a : E) : T := fun e => bd (a e) truO
/-- a comparison's answer as a test -/
def blO : D → M Bool
  | .bl b => pu b
  | _ => no
def tb (a : E) : T := fun e => bd (a e) blO
def andT (a b : T) : T := fun e => bd (a e) fun c => if c then b e else pu false
def orT (a b : T) : T := fun e => bd (a e) fun c => if c then pu true else b e
def notT (a : T) : T := fun e => bd (a e) fun c => pu (!c)
/-- and, or, not as values: of bools -/
def andE (a b : E) : E := fun e => bd (a e) fun d => bd (blO d) fun c => if c then b e else pu (.bl false)
def orE (a b : E) : E := fun e => bd (a e) fun d => bd (blO d) fun c => if c then pu (.bl true) else b e
def notE (a : E) : E := fun e => bd (a e) fun d => bd (blO d) fun c => pu (.bl (!c))
def ifE (t : T) (a b : E) : E := fun e => bd (t e) fun c => if c then a e else b e
/-- a op b op' c -/
def chE (o o' : D → D → M D) (a b c : E) : E := fun e => bd (a e) fun x => bd (b e) fun y => bd (o x y) fun z => match z with
  | .bl true => bd (c e) fun w => o' y w
  | .bl false => pu (.bl false)
  | _ => no
/-- a call of a def, by its number -/
def caE (F : Nat → List D → M D) (f : Nat) (a : Es) : E := fun e => bd (a e) (F f)
/-- a call of a def with keywords: g puts the values in the parameters' order -/
def cakE (F : Nat → List D → M D) (f : Nat) (g : List D → List D → List D) (a k : Es) : E := fun e => bd (a e) fun xs => bd (k e) fun ys => F f (g xs ys)
/-- a call of a def that is handed a lambda: what the lambda does here; nothing is let out -/
def lamE (G : M D → M D) (a : E) : E := fun e => nx (G (a e))
/-- the lambda in hand is called -/
def actE (act : M D) (i : Nat) : E := fun e => match e[i]? with
  | some .fu => act
  | _ => no
/-- a call of a built-in -/
def biE (g : List D → M D) (a : Es) : E := fun e => bd (a e) g
def len1 : D → M D
  | .str z => if z.length ≤ LIM then pu (.int z.length) else no
  | x => bd (itemsO x) fun xs => pu (.int xs.length)
def lenO : List D → M D
  | [x] => len1 x
  | _ => no
def intOf : List D → Option (List Int)
  | [] => some []
  | .int i :: r => (intOf r).map (i :: ·)
  | _ => none
def blsOf : List D → Option (List Bool)
  | [] => some []
  | .bl b :: r => (blsOf r).map (b :: ·)
  | _ => none
def sumO : List D → M D
  | [x] => bd (itemsO x) fun xs => match intOf xs with
    | some l => pu (.int l.sum)
    | none => no
  | _ => no
def minL (a : Int) (l : List Int) : Int := l.foldl (fun m x => if x < m then x else m) a
def maxL (a : Int) (l : List Int) : Int := l.foldl (fun m x => if m < x then x else m) a
def minO : List D → M D
  | [x] => bd (itemsO x) fun xs => match intOf xs with
    | some (a :: l) => pu (.int (minL a l))
    | _ => no
  | _ => no
def min2O : List D → M D
  | [.int i, .int j] => pu (.int (if j < i then j else i))
  | _ => no
def maxO : List D → M D
  | [x] => bd (itemsO x) fun xs => match intOf xs with
    | some (a :: l) => pu (.int (maxL a l))
    | _ => no
  | _ => no
def max2O : List D → M D
  | [.int i, .int j] => pu (.int (if j > i then j else i))
  | _ => no
/-- items of a list (no tuple) -/
def litO : D → M (List D)
  | .lst xs => pu xs
  | .ref n => itemsO (.ref n)
  | _ => no
def allO : List D → M D
  | [x] => bd (litO x) fun xs => match blsOf xs with
    | some l => pu (.bl (l.all id))
    | none => no
  | _ => no
def anyO : List D → M D
  | [x] => bd (litO x) fun xs => match blsOf xs with
    | some l => pu (.bl (l.any id))
    | none => no
  | _ => no
def absO : List D → M D
  | [.int i] => pu (.int (if i < 0 then -i else i))
  | _ => no
def tup1 : D → M D
  | .tup xs => pu (.tup xs)
  | x => bd (litO x) fun xs => pu (.tup xs)
def tupleO : List D → M D
  | [x] => tup1 x
  | _ => no
/-- list(x): a new list -/
def listF (a : E) : Es := fun e => bd (a e) itemsO
def intO : List D → M D
  | [.int i] => pu (.int i)
  | [.bl b] => pu (.int (if b then 1 else 0))
  | _ => no
/-- isinstance: the kinds asked for -/
inductive Ty where
  | int | bool | str | dict | tuple | list | own (c : Nat)
  deriving DecidableEq
def isiO (t : Ty) : List D → M D
  | [.non] => pu (.bl false)
  | [.bl _] => pu (.bl (t == .bool || t == .int))
  | [.int _] => pu (.bl (t == .int))
  | [.str _] => pu (.bl (t == .str))
  | [.tup _] => pu (.bl (t == .tuple))
  | [.lst _] => pu (.bl (t == .list))
  | [.dct _ _] => pu (.bl (t == .dict))
  | [.ref n] => fun s => match s[n]? with
    | some ⟨_, .lst _⟩ => .ok (.bl (t == .list)) s
    | some ⟨_, .dct _⟩ => .ok (.bl (t == .dict)) s
    | _ => .bad
  | _ => no
/-- a field of the error in hand: its fields' names and values, the name's place, the field -/
def xfE (ns : List Sy) (vs : List D) (i : Nat) (f : Sy) : E := fun e => match e[i]? with
  | some .ex => match (ns.zip vs).lookup f with
    | some v => pu v
    | none => no
  | _ => no
inductive Tg where
  | nm (i : Nat)
  | tp (ts : List Nat)
  | nt (i : Nat) (js : List Nat)
def setAll : List Nat → List D → En → En
  | i :: r, d :: s, e => setAll r s (e.set i (.va d))
  | _, _, e => e
def Tg.put : Tg → D → En → Option En
  | .nm i, d, e => some (e.set i (.va d))
  | .tp ts, .tup ds, e => if ds.length = ts.length then some (setAll ts ds e) else none
  | .nt i js, .tup [a, .tup ds], e => if ds.length = js.length then some (setAll js ds (e.set i (.va a))) else none
  | .tp _, _, _ => none
  | .nt _ _, _, _ => none
/-- a source: its items, and a watch over the store (a list that is walked stays as it is) -/
def Src := En → M (List D × (Sto → Bool))
def watch : D → Sto → Sto → Bool
  | .ref n, s0, s => decide (s0[n]? = s[n]?)
  | _, _, _ => true
def seqS (a : E) : Src := fun e => bd (a e) fun d => bd (itemsO d) fun xs => fun s => .ok (xs, watch d s) s
def strS (a : E) : Src := fun e => bd (a e) fun d => match d with
  | .str z => pu (z.map fun c => .str [c], fun _ => true)
  | _ => no
def iRow (lo : Int) (n : Nat) : List D := (List.range n).map fun i => .int (lo + (i : Nat))
def B62 : Int := 4611686018427387904
def rngO (lo hi : Int) : M (List D × (Sto → Bool)) := if -B62 ≤ lo ∧ lo < B62 ∧ -B62 ≤ hi ∧ hi < B62 then pu (iRow lo (hi - lo).toNat, fun _ => true) else no
def rng1 (a : E) : Src := fun e => bd (a e) fun d => match d with
  | .int n => rngO 0 n
  | _ => no
def rng2 (a b : E) : Src := fun e => bd (a e) fun d => bd (b e) fun d' => match d, d' with
  | .int l, .int n => rngO l n
  | _, _ => no
/-- two lists, or two tuples -/
def alike : D → D → Bool
  | .tup _, .tup _ => true
  | .tup _, _ => false
  | _, .tup _ => false
  | _, _ => true
def zipS (a b : E) : Src := fun e => bd (a e) fun x => bd (b e) fun y => bd (itemsO x) fun xs => bd (itemsO y) fun ys => fun s =>
  .ok ((xs.zip ys).map fun p => .tup [p.1, p.2], fun s' => watch x s s' && watch y s s') s
def enumL (k : Nat) : List D → List D
  | [] => []
  | d :: r => .tup [.int k, d] :: enumL (k + 1) r
def enuS (a : E) : Src := fun e => bd (a e) fun x => bd (itemsO x) fun xs => fun s => .ok (enumL 0 xs, watch x s) s
def wipeE (e : En) : List Nat → En
  | [] => e
  | v :: vs => (wipeE e vs).set v .un
def compL (tg : Tg) (t : T) (elt : E) (ok : Sto → Bool) (e : En) : List D → M (List D)
  | [] => pu []
  | d :: r => fun s => if ok s then (match tg.put d e with
    | some e' => bd (nx (t e')) (fun b => if b then bd (nx (elt e')) fun x => bd (compL tg t elt ok e r) fun xs => pu (x :: xs) else compL tg t elt ok e r) s
    | none => .bad) else .bad
def yes : T := fun _ => pu true
def cmpF (src : Src) (tg : Tg) (t : T) (elt : E) (vs : List Nat) : Es := fun e => bd (src e) fun p => bd (compL tg t elt p.2 (wipeE e vs) p.1) fun xs => fun s =>
  if p.2 s && decide (xs.length ≤ LIM) then .ok xs s else .bad
inductive RS where
  | nx (e : En) (s : Sto) | rt (d : D) (s : Sto) | bk (e : En) (s : Sto) | ct (e : En) (s : Sto)
  | ex (e : En) (c : Nat) (ns : List Sy) (vs : List D) (s : Sto) | bad
abbrev St := En → Sto → RS
def nxS : St := fun e s => .nx e s
def ctS : St := fun e s => .ct e s
def noS : St := fun _ _ => .bad
def seq (a b : St) : St := fun e s => match a e s with
  | .nx e' s' => b e' s'
  | r => r
def ev {α} (m : En → M α) (k : α → St) : St := fun e s => match m e s with
  | .ok a s' => k a e s'
  | .exc c ns vs s' => .ex e c ns vs s'
  | .bad => .bad
def setS (i : Nat) (a : E) : St := ev a fun d e s => .nx (e.set i (.va d)) s
def asgS (tg : Tg) (a : E) : St := ev a fun d e s => match tg.put d e with
  | some e' => .nx e' s
  | none => .bad
def exprS (a : E) : St := ev a fun _ => nxS
def retS (a : E) : St := ev a fun d _ s => .rt d s
def ifS (t : T) (a b : St) : St := ev t fun c => if c then a else b
def raiS (c : Nat) (ns : List Sy) (a : Es) : St := ev a fun vs e s => .ex e c ns vs s
def augS (i : Nat) (o : D → D → M D) (a : E) : St := setS i (binE o (vE i) a)
def loopL (tg : Tg) (b : St) (ok : Sto → Bool) : List D → St
  | [], e, s => if ok s then .nx e s else .bad
  | d :: r, e, s => if ok s then (match tg.put d e with
    | some e' => match b e' s with
      | .nx e2 s2 => loopL tg b ok r e2 s2
      | .ct e2 s2 => loopL tg b ok r e2 s2
      | .bk e2 s2 => .nx e2 s2
      | r => r
    | none => .bad) else .bad
def forS (src : Src) (tg : Tg) (b : St) : St := ev src fun p => loopL tg b p.2 p.1
/-- a list that stands in the store is changed -/
def mutL (f : List D → Option (List D)) (x : D) : M D := match x with
  | .ref n => fun s => match s[n]? with
    | some ⟨true, .lst xs⟩ => match f xs with
      | some ys => if ys.length ≤ LIM then .ok .non (s.set n ⟨true, .lst ys⟩) else .bad
      | none => .bad
    | _ => .bad
  | _ => no
def appO (x y : D) : M D := mutL (fun xs => if xs.length < LIM then some (xs ++ [y]) else none) x
/-- a list that stands in the store -/
def lstQ : D → M (List D)
  | .ref n => fun s => match s[n]? with
    | some ⟨true, .lst xs⟩ => .ok xs s
    | _ => .bad
  | _ => no
/-- xs.append(e) -/
def appE (o a : E) : E := fun e => bd (o e) fun d => bd (lstQ d) fun _ => bd (a e) fun y => appO d y
/-- xs + ys: a new list -/
def catF (a b : E) : Es := fun e => bd (a e) fun x => bd (b e) fun y => bd (lstQ x) fun xs => bd (lstQ y) fun ys => if xs.length + ys.length ≤ LIM then pu (xs ++ ys) else no
/-- o[i] = v: the value first -/
def putO (o i v : D) : M D := match i with
  | .int k => mutL (fun xs => (ixO xs.length k).map fun j => xs.set j v) o
  | _ => no
def putS (o i v : E) : St := ev v fun d => ev o fun a => ev i fun b => ev (fun _ => putO a b d) fun _ => nxS
/-- an except clause: which errors; the name's place; what its suite does, told the error's fields -/
structure Hd where
  k : Nat → Bool
  i : Option Nat
  b : List Sy → List D → St
def catch_ (c : Nat) (ns : List Sy) (vs : List D) (e : En) (s : Sto) : List Hd → RS
  | [] => .ex e c ns vs s
  | h :: r => if h.k c then (match h.i with
      | none => match h.b ns vs e s with
        | .ex _ _ _ _ _ => .bad
        | q => q
      | some i => if i < e.length then (match h.b ns vs (e.set i .ex) s with
        | .nx e2 s2 => .nx (e2.set i .un) s2
        | .bk e2 s2 => .bk (e2.set i .un) s2
        | .ct e2 s2 => .ct (e2.set i .un) s2
        | .rt d s2 => .rt d s2
        | _ => .bad) else .bad) else catch_ c ns vs e s r
def tryS (b : St) (hs : List Hd) : St := fun e s => match b e s with
  | .ex e' c ns vs s' => catch_ c ns vs e' s' hs
  | r => r
/-- a def: p parameters, n slots, its body -/
def fn (p n : Nat) (b : St) : List D → M D := fun ds s => if ds.length = p then (match b (ds.map .va ++ List.replicate (n - ds.length) .un) s with
  | .nx _ s' => .ok .non s'
  | .rt d s' => .ok d s'
  | .ex _ c ns vs s' => .exc c ns vs s'
  | _ => .bad) else .bad
/-- a def that is handed a lambda: n slots -/
def fnL (n : Nat) (b : M D → St) : M D → M D := fun act s => match b act (.fu :: List.replicate (n - 1) .un) s with
  | .nx _ s' => .ok .non s'
  | .rt d s' => .ok d s'
  | .ex _ c ns vs s' => .exc c ns vs s'
  | _ => .bad
end MP
namespace MS
open PySem PySem.Spec PyProof.Rows L2
open MP (Sy D Cn Ob Sto R En bd pu no rz nx LIM)
def sy (s : Sy) : Str := ⟨s.toArray⟩
/-- the error that an except suite has in hand: the name's place, where it stands, its dict, its fields -/
structure Xa where
  i : Nat
  a : Addr
  d : Addr
  ns : List Sy
  vs : List D
/-- the lambda that a def was handed: the name's place, where it stands, its code object and that one's name, its maker's slots -/
structure Fx where
  i : Nat
  f : Addr
  k : Addr
  q : Str
  env : En
  σ : L2.St
/-- what stays: the written part, where the classes stand, the tables of code objects, the error in hand, the lambda in hand -/
structure Ct where
  K : PySem.W.Frag
  cad : Nat → Addr
  T : List (Addr × Str)
  xa : Option Xa
  fx : Option Fx
/-- where the store's objects stand; what may change; how many there are; what is held: nothing knows it but the one who builds it -/
structure Jm where
  j : Nat → Addr
  m : Addr → Prop
  n : Nat
  h : Addr → Prop
def TupAt (c : Ct) (H : Hp) (J : Jm) (a : Addr) (xs : List V) : Prop := (H a = some (.tup xs) ∧ ¬ J.m a) ∨ xs = [] ∧
    ∃ (o : Obj) (its : Array Value) (n : Nat), c.K.lookup a = some o ∧ o.cls = .type "tuple" ∧ o.data = .seq its n ∧ its.size ≤ sizeLine ∧ Vals xs its.toList
def LstAt (c : Ct) (H : Hp) (J : Jm) (a : Addr) (xs : List V) : Prop := (Rd H a (.lst xs) ∧ ¬ J.m a) ∨
    ∃ (o : Obj) (its : Array Value) (n : Nat), c.K.lookup a = some o ∧ o.cls = .type "list" ∧ o.dict = none ∧ o.data = .seq its n ∧ its.size ≤ sizeLine ∧ Vals xs its.toList
mutual
def RV (c : Ct) (H : Hp) (J : Jm) : D → V → Prop
  | .non, v => v = .non
  | .bl b, v => v = .bl b
  | .int i, v => v = .int i
  | .str s, v => v = .str (sy s)
  | .tup ds, v => ∃ a xs, v = .ref a ∧ TupAt c H J a xs ∧ RVs c H J ds xs
  | .lst ds, v => ∃ a xs, v = .ref a ∧ LstAt c H J a xs ∧ RVs c H J ds xs
  | .dct _ _, _ => False
  | .ref k, v => k < J.n ∧ v = .ref (J.j k)
def RVs (c : Ct) (H : Hp) (J : Jm) : List D → List V → Prop
  | [], vs => vs = []
  | d :: r, vs => ∃ v t, vs = v :: t ∧ RV c H J d v ∧ RVs c H J r t
end
theorem TupAt.sq {c : Ct} {H : Hp} {J : Jm} {a : Addr} {xs : List V} (h : TupAt c H J a xs) : SqT c.K H a xs := by
  rcases h with ⟨h, _⟩ | ⟨_, h⟩
  · exact .inl (.inl h)
  · exact .inr h
/-- what is tracked and may not change stays, and may not change behind -/
def Keep (H : Hp) (J : Jm) (H' : Hp) (J' : Jm) : Prop := ∀ b o, H b = some o → ¬ J.m b → H' b = some o ∧ ¬ J'.m b
theorem Keep.refl (H : Hp) (J : Jm) : Keep H J H J := fun _ _ h n => ⟨h, n⟩
theorem Keep.trans {H H1 H2 : Hp} {J J1 J2 : Jm} (a : Keep H J H1 J1) (b : Keep H1 J1 H2 J2) : Keep H J H2 J2 := fun c o h n => b c o (a c o h n).1 (a c o h n).2
theorem TupAt.keep {c : Ct} {H H' : Hp} {J J' : Jm} {a : Addr} {xs : List V} (h : TupAt c H J a xs) (k : Keep H J H' J') : TupAt c H' J' a xs := by
  rcases h with ⟨h, n⟩ | h
  · exact .inl ⟨(k a _ h n).1, (k a _ h n).2⟩
  · exact .inr h
theorem rd_keep {H H' : Hp} {J J' : Jm} {a : Addr} {u : HO} (h : Rd H a u) (n : ¬ J.m a) (k : Keep H J H' J') : Rd H' a u ∧ ¬ J'.m a := by
  rcases h with h | ⟨o, h⟩
  · exact ⟨.inl (k a _ h n).1, (k a _ h n).2⟩
  · exact ⟨.inr ⟨o, (k a _ h n).1⟩, (k a _ h n).2⟩
theorem LstAt.sq {c : Ct} {H : Hp} {J : Jm} {a : Addr} {xs : List V} (h : LstAt c H J a xs) : SqL c.K H a xs := by
  rcases h with ⟨h, _⟩ | h
  · exact .inl h
  · exact .inr h
theorem LstAt.keep {c : Ct} {H H' : Hp} {J J' : Jm} {a : Addr} {xs : List V} (h : LstAt c H J a xs) (k : Keep H J H' J') : LstAt c H' J' a xs := by
  rcases h with ⟨h, n⟩ | h
  · exact .inl (rd_keep h n k)
  · exact .inr h
/-- the store grows, its objects stay where they are -/
def Ext (J J' : Jm) : Prop := J.n ≤ J'.n ∧ ∀ k, k < J.n → J'.j k = J.j k
theorem Ext.refl (J : Jm) : Ext J J := ⟨Nat.le_refl _, fun _ _ => rfl⟩
theorem Ext.trans {J J1 J2 : Jm} (a : Ext J J1) (b : Ext J1 J2) : Ext J J2 := ⟨Nat.le_trans a.1 b.1, fun k h => (b.2 k (Nat.lt_of_lt_of_le h a.1)).trans (a.2 k h)⟩
section
variable {c : Ct} {H H' : Hp} {J J' : Jm}
mutual
theorem RV.mono (k : Keep H J H' J') (e : Ext J J') : ∀ (d : D) (v : V), RV c H J d v → RV c H' J' d v
  | .non, _, h => h
  | .bl _, _, h => h
  | .int _, _, h => h
  | .str _, _, h => h
  | .tup ds, _, h => by
    obtain ⟨a, xs, e1, h1, h2⟩ := h
    exact ⟨a, xs, e1, h1.keep k, RVs.mono k e ds xs h2⟩
  | .lst ds, _, h => by
    obtain ⟨a, xs, e1, h1, h2⟩ := h
    exact ⟨a, xs, e1, h1.keep k, RVs.mono k e ds xs h2⟩
  | .dct _ _, _, h => h
  | .ref n, _, h => by
    obtain ⟨h1, h2⟩ := h
    exact ⟨Nat.lt_of_lt_of_le h1 e.1, by rw [h2, e.2 n h1]⟩
theorem RVs.mono (k : Keep H J H' J') (e : Ext J J') : ∀ (ds : List D) (vs : List V), RVs c H J ds vs → RVs c H' J' ds vs
  | [], _, h => h
  | d :: r, _, h => by
    obtain ⟨v, t, e1, h1, h2⟩ := h
    exact ⟨v, t, e1, RV.mono k e d v h1, RVs.mono k e r t h2⟩
end
theorem RVs.nil : RVs c H J [] [] := rfl
theorem RVs.cons {d : D} {ds : List D} {v : V} {vs : List V} (h : RV c H J d v) (t : RVs c H J ds vs) : RVs c H J (d :: ds) (v :: vs) := ⟨v, vs, rfl, h, t⟩
theorem RVs.length : ∀ {ds : List D} {vs : List V}, RVs c H J ds vs → ds.length = vs.length
  | [], vs, h => by
    have e : vs = [] := h
    rw [e]; rfl
  | d :: r, vs, h => by
    obtain ⟨v, t, e, _, h2⟩ := h
    rw [e, List.length_cons, List.length_cons, RVs.length h2]
theorem RVs.get : ∀ {ds : List D} {vs : List V} {i : Nat} {d : D}, RVs c H J ds vs → ds[i]? = some d → ∃ v, vs[i]? = some v ∧ RV c H J d v
  | [], _, _, _, _, e => by simp at e
  | x :: r, _, 0, d, h, e => by
    obtain ⟨v, t, e1, h1, _⟩ := h
    subst e1
    simp at e
    subst e
    exact ⟨v, rfl, h1⟩
  | x :: r, _, i + 1, d, h, e => by
    obtain ⟨v, t, e1, _, h2⟩ := h
    subst e1
    obtain ⟨u, e2, h3⟩ := RVs.get (i := i) h2 (by simpa using e)
    exact ⟨u, by simpa using e2, h3⟩
theorem RVs.of_get : ∀ {ds : List D} {vs : List V}, ds.length = vs.length → (∀ (i : Nat) (d : D) (v : V), ds[i]? = some d → vs[i]? = some v → RV c H J d v) → RVs c H J ds vs
  | [], [], _, _ => rfl
  | [], _ :: _, e, _ => by simp at e
  | _ :: _, [], e, _ => by simp at e
  | d :: r, v :: t, e, h => ⟨v, t, rfl, h 0 d v rfl rfl, RVs.of_get (by simpa using e) fun i d v a b => h (i + 1) d v (by simpa using a) (by simpa using b)⟩
theorem RVs.app : ∀ {ds es : List D} {vs us : List V}, RVs c H J ds vs → RVs c H J es us → RVs c H J (ds ++ es) (vs ++ us)
  | [], _, vs, _, h, g => by
    have e : vs = [] := h
    subst e
    exact g
  | d :: r, _, _, _, h, g => by
    obtain ⟨v, t, e1, h1, h2⟩ := h
    subst e1
    exact ⟨v, t ++ _, rfl, h1, RVs.app h2 g⟩
theorem RVs.take {ds : List D} {vs : List V} (n : Nat) (h : RVs c H J ds vs) : RVs c H J (ds.take n) (vs.take n) :=
  .of_get (by simp [h.length]) fun i d v a b => by
    have hi : i < n := by
      rcases Nat.lt_or_ge i n with q | q
      · exact q
      · rw [List.getElem?_eq_none (by simp; omega)] at a; cases a
    rw [List.getElem?_take_of_lt hi] at a b
    obtain ⟨u, e, r⟩ := h.get a
    rw [e] at b
    cases b
    exact r
theorem RVs.drop {ds : List D} {vs : List V} (n : Nat) (h : RVs c H J ds vs) : RVs c H J (ds.drop n) (vs.drop n) :=
  .of_get (by simp [h.length]) fun i d v a b => by
    rw [List.getElem?_drop] at a b
    obtain ⟨u, e, r⟩ := h.get a
    rw [e] at b
    cases b
    exact r
theorem RVs.set {ds : List D} {vs : List V} {d : D} {v : V} (i : Nat) (h : RVs c H J ds vs) (g : RV c H J d v) : RVs c H J (ds.set i d) (vs.set i v) :=
  .of_get (by simp [h.length]) fun k x y a b => by
    have hl := h.length
    by_cases e : i = k
    · subst e
      have h1 : i < ds.length := by
        rcases Nat.lt_or_ge i ds.length with q | q
        · exact q
        · rw [List.getElem?_eq_none (by simpa using q)] at a; cases a
      rw [List.getElem?_set_self h1] at a
      rw [List.getElem?_set_self (by omega)] at b
      cases a; cases b
      exact g
    · rw [List.getElem?_set_ne e] at a b
      obtain ⟨u, e, r⟩ := h.get a
      rw [e] at b
      cases b
      exact r
end
/-- the text's own classes (no errors) -/
def ownN : Nat → Str
  | 0 => "Picker"
  | _ => "Yard"
def ownA (K : PySem.W.Frag) (k : Nat) : Addr := He.ga K (ownN k)
/-- what a mutable object is -/
def RO (c : Ct) (H : Hp) (J : Jm) (a : Addr) : Cn → Prop
  | .lst ds => ∃ xs, H a = some (.lst xs) ∧ RVs c H J ds xs
  | .dct kvs => ∃ xs : List (List Key × V), H a = some (.dT xs) ∧ xs.map (·.1) = kvs.map (·.1.map Sum.inl) ∧ RVs c H J (kvs.map (·.2)) (xs.map (·.2))
  | .ins k ns vs => ∃ dx fs, H a = some (.ins (ownA c.K k) dx fs) ∧ fs.map (·.1) = ns.map sy ∧ RVs c H J vs (fs.map (·.2))
theorem RO.there {c : Ct} {H : Hp} {J : Jm} {a : Addr} : ∀ {o : Cn}, RO c H J a o → H a ≠ none
  | .lst _, h => by obtain ⟨_, e, _⟩ := h; rw [e]; exact fun z => nomatch z
  | .dct _, h => by obtain ⟨_, e, _⟩ := h; rw [e]; exact fun z => nomatch z
  | .ins _ _ _, h => by obtain ⟨_, _, e, _⟩ := h; rw [e]; exact fun z => nomatch z
/-- content stays where the object stays -/
theorem RO.mono {c : Ct} {H H' : Hp} {J J' : Jm} {a : Addr} (k : Keep H J H' J') (e : Ext J J') (same : H' a = H a) : ∀ {o : Cn}, RO c H J a o → RO c H' J' a o
  | .lst _, h => by
    obtain ⟨xs, e1, h1⟩ := h
    exact ⟨xs, same.trans e1, RVs.mono k e _ _ h1⟩
  | .dct _, h => by
    obtain ⟨xs, e1, e2, h1⟩ := h
    exact ⟨xs, same.trans e1, e2, RVs.mono k e _ _ h1⟩
  | .ins _ _ _, h => by
    obtain ⟨dx, fs, e1, e2, h1⟩ := h
    exact ⟨dx, fs, same.trans e1, e2, RVs.mono k e _ _ h1⟩
/-- neither a table nor a code object -/
def PlainO (o : HO) : Prop := (∀ ps, o ≠ .tbl ps) ∧ ∀ k q, o ≠ LamX.CodeO k q
theorem plain_lst {xs : List V} : PlainO (.lst xs) := ⟨fun ps z => (nomatch z), fun k q z => by
  unfold LamX.CodeO at z
  cases z⟩
theorem plain_tup {xs : List V} : PlainO (.tup xs) := ⟨fun ps z => (nomatch z), fun k q z => by
  unfold LamX.CodeO at z
  cases z⟩
theorem plain_dt {xs : List (List Key × V)} : PlainO (.dT xs) := ⟨fun ps z => (nomatch z), fun k q z => by
  unfold LamX.CodeO at z
  cases z⟩
theorem plain_xd {xs : List (Str × V)} : PlainO (.xd xs) := ⟨fun ps z => (nomatch z), fun k q z => by
  unfold LamX.CodeO at z
  cases z⟩
theorem plain_ins {cl dx : Addr} {xs : List (Str × V)} : PlainO (.ins cl dx xs) := ⟨fun ps z => (nomatch z), fun k q z => by
  unfold LamX.CodeO at z
  cases z⟩
/-- tables may change, code objects may not -/
def TabM (H : Hp) (m : Addr → Prop) : Prop := ∀ b o, H b = some o → ((∃ ps, o = .tbl ps) → m b) ∧ ((∃ k q, o = LamX.CodeO k q) → ¬ m b)
theorem TabM.any {H H' : Hp} {m m' : Addr → Prop} (p : Addr) (h : TabM H m) (hH : ∀ b, b ≠ p → H' b = H b) (hp : ∀ o, H' p = some o → PlainO o) (hm : ∀ b, b ≠ p → (m' b ↔ m b)) : TabM H' m' := fun b o e => by
  by_cases q : b = p
  · subst q
    exact ⟨fun ⟨ps, z⟩ => absurd z ((hp o e).1 ps), fun ⟨k, q, z⟩ => absurd z ((hp o e).2 k q)⟩
  · rw [hH b q] at e
    rw [hm b q]
    exact h b o e
theorem TabM.upd {H : Hp} {m m' : Addr → Prop} {p : Addr} {o : HO} (h : TabM H m) (ho : PlainO o) (hm : ∀ b, b ≠ p → (m' b ↔ m b)) : TabM (upd H p o) m' :=
  h.any p (fun b q => upd_ne q) (fun u e => by
    rw [upd_same] at e
    cases e
    exact ho) hm
theorem or_ne {m : Addr → Prop} {p b : Addr} (h : b ≠ p) : (m b ∨ b = p) ↔ m b := ⟨fun z => z.elim id fun w => absurd w h, .inl⟩
structure RS (c : Ct) (H : Hp) (J : Jm) (S : Sto) : Prop where
  n : J.n = S.length
  inj : ∀ k l, k < J.n → l < J.n → J.j k = J.j l → k = l
  ob : ∀ k o, S[k]? = some o → RO c H J (J.j k) o.c ∧ (o.w = true → J.m (J.j k))
  mt : ∀ b, J.m b → H b ≠ none
  hd : ∀ b, J.h b → (J.m b ∧ ∃ xs, H b = some (.lst xs)) ∧ ∀ k, k < J.n → J.j k ≠ b
  tb : LamX.Tabs c.T H
  tt : TabM H J.m
structure Aft (c : Ct) (H : Hp) (J : Jm) (H' : Hp) (J' : Jm) (S' : Sto) : Prop where
  rs : RS c H' J' S'
  ext : Ext J J'
  keep : Keep H J H' J'
  held : ∀ b, J.h b → H' b = H b ∧ J'.h b
section
variable {c : Ct} {H H' H2 : Hp} {J J' J2 : Jm} {S S' S2 : Sto}
theorem RS.live (r : RS c H J S) {k : Nat} (h : k < J.n) : H (J.j k) ≠ none := by
  rw [r.n] at h
  exact (r.ob k S[k] (by simp [h])).1.there
theorem Aft.refl (r : RS c H J S) : Aft c H J H J S := ⟨r, .refl J, .refl H J, fun _ h => ⟨rfl, h⟩⟩
theorem Aft.trans (a : Aft c H J H' J' S') (b : Aft c H' J' H2 J2 S2) : Aft c H J H2 J2 S2 :=
  ⟨b.rs, a.ext.trans b.ext, a.keep.trans b.keep, fun x h => ⟨(b.held x (a.held x h).2).1.trans (a.held x h).1, (b.held x (a.held x h).2).2⟩⟩
/-- the same without what is held -/
structure AftW (c : Ct) (H : Hp) (J : Jm) (H' : Hp) (J' : Jm) (S' : Sto) : Prop where
  rs : RS c H' J' S'
  ext : Ext J J'
  keep : Keep H J H' J'
theorem Aft.w (a : Aft c H J H' J' S') : AftW c H J H' J' S' := ⟨a.rs, a.ext, a.keep⟩
theorem AftW.refl (r : RS c H J S) : AftW c H J H J S := ⟨r, .refl J, .refl H J⟩
theorem AftW.trans (a : AftW c H J H' J' S') (b : AftW c H' J' H2 J2 S2) : AftW c H J H2 J2 S2 := ⟨b.rs, a.ext.trans b.ext, a.keep.trans b.keep⟩
theorem RV.aftw (a : AftW c H J H' J' S') {d : D} {v : V} (h : RV c H J d v) : RV c H' J' d v := RV.mono a.keep a.ext d v h
theorem RVs.aftw (a : AftW c H J H' J' S') {d : List D} {v : List V} (h : RVs c H J d v) : RVs c H' J' d v := RVs.mono a.keep a.ext d v h
theorem RV.aft (a : Aft c H J H' J' S') {d : D} {v : V} (h : RV c H J d v) : RV c H' J' d v := RV.mono a.keep a.ext d v h
theorem RVs.aft (a : Aft c H J H' J' S') {d : List D} {v : List V} (h : RVs c H J d v) : RVs c H' J' d v := RVs.mono a.keep a.ext d v h
theorem tb_new {T : List (Addr × Str)} {p : Addr} {o : HO} (hp : H p = none) (h : LamX.Tabs T H) : LamX.Tabs T (upd H p o) := h.ext fun b u e => by rw [upd_ne (ne_of_none e hp)]; exact e
/-- a list is changed: the tables stay -/
theorem tb_lst {T : List (Addr × Str)} {p : Addr} {o : HO} {xs : List V} (hp : H p = some (.lst xs)) (h : LamX.Tabs T H) : LamX.Tabs T (upd H p o) := fun t ht => by
  obtain ⟨ps, h1, h2, h3⟩ := h t ht
  refine ⟨ps, by rw [upd_ne (fun z => by rw [z, hp] at h1; cases h1)]; exact h1, h2, fun pos cv hc => ?_⟩
  obtain ⟨k, e1, e2⟩ := h3 pos cv hc
  refine ⟨k, e1, ?_⟩
  rw [upd_ne (fun z => by
    rw [z, hp] at e2
    have e3 := Option.some.inj e2
    unfold LamX.CodeO at e3
    cases e3)]
  exact e2
/-- a new object that the store does not hold -/
theorem RS.new (r : RS c H J S) {p : Addr} {o : HO} (ho : PlainO o) (hp : H p = none) : Aft c H J (upd H p o) J S := by
  have np : ¬ J.m p := fun z => r.mt p z hp
  have k : Keep H J (upd H p o) J := fun b u e n => ⟨by rw [upd_ne (ne_of_none e hp)]; exact e, n⟩
  have nn : ∀ b, H b ≠ none → b ≠ p := fun b h e => h (by rw [e]; exact hp)
  refine ⟨⟨r.n, r.inj, fun i u e => ⟨RO.mono k (.refl J) ?_ (r.ob i u e).1, (r.ob i u e).2⟩, fun b h => ?_, fun b h => ⟨⟨(r.hd b h).1.1, ?_⟩, (r.hd b h).2⟩, tb_new hp r.tb, r.tt.upd ho fun _ _ => .rfl⟩, .refl J, k, fun b h => ⟨upd_ne (nn b (r.mt b (r.hd b h).1.1)), h⟩⟩
  · rw [upd_ne (nn _ (r.ob i u e).1.there)]
  · rw [upd_ne (nn b (r.mt b h))]; exact r.mt b h
  · rw [upd_ne (nn b (r.mt b (r.hd b h).1.1))]; exact (r.hd b h).1.2
theorem RS.newT {xs : List V} {p : Addr} (r : RS c H J S) (hp : H p = none) : Aft c H J (upd H p (.tup xs)) J S := r.new plain_tup hp
theorem RV.tup {ds : List D} {xs : List V} {p : Addr} (r : RS c H J S) (hp : H p = none) (h : RVs c H J ds xs) : RV c (upd H p (.tup xs)) J (.tup ds) (.ref p) :=
  ⟨p, xs, rfl, .inl ⟨upd_same, fun z => r.mt p z hp⟩, (RVs.aft (r.new plain_tup hp) h)⟩
theorem RV.lst {ds : List D} {xs : List V} {p : Addr} (r : RS c H J S) (hp : H p = none) (h : RVs c H J ds xs) : RV c (upd H p (.lst xs)) J (.lst ds) (.ref p) :=
  ⟨p, xs, rfl, .inl ⟨.inl upd_same, fun z => r.mt p z hp⟩, (RVs.aft (r.new plain_lst hp) h)⟩
/-- a list of the store is changed -/
theorem RS.chg (r : RS c H J S) {k : Nat} {ys : List V} {ds es : List D} (hk : S[k]? = some ⟨true, .lst ds⟩) (h : RVs c H J es ys) :
    Aft c H J (upd H (J.j k) (.lst ys)) J (S.set k ⟨true, .lst es⟩) := by
  obtain ⟨⟨xs0, g1, g2⟩, g3⟩ := r.ob k _ hk
  have gm : J.m (J.j k) := g3 rfl
  have hkl : k < S.length := by
    rcases Nat.lt_or_ge k S.length with q | q
    · exact q
    · rw [List.getElem?_eq_none q] at hk; cases hk
  have kp : Keep H J (upd H (J.j k) (.lst ys)) J := fun b u e n => ⟨by rw [upd_ne (fun z => n (by rw [z]; exact gm))]; exact e, n⟩
  have nh : ∀ b, J.h b → b ≠ J.j k := fun b hb z => (r.hd b hb).2 k (by rw [r.n]; exact hkl) z.symm
  refine ⟨⟨by rw [List.length_set]; exact r.n, r.inj, fun i u g => ?_, fun b hb => ?_, fun b hb => ⟨⟨(r.hd b hb).1.1, by rw [upd_ne (nh b hb)]; exact (r.hd b hb).1.2⟩, (r.hd b hb).2⟩, tb_lst g1 r.tb, r.tt.upd plain_lst fun _ _ => .rfl⟩, .refl J, kp, fun b hb => ⟨upd_ne (nh b hb), hb⟩⟩
  · by_cases e : k = i
    · subst e
      rw [List.getElem?_set_self hkl] at g
      cases g
      exact ⟨⟨ys, upd_same, RVs.mono kp (.refl J) _ _ h⟩, fun _ => gm⟩
    · rw [List.getElem?_set_ne e] at g
      obtain ⟨q1, q2⟩ := r.ob i u g
      have hi : i < S.length := by
        rcases Nat.lt_or_ge i S.length with q | q
        · exact q
        · rw [List.getElem?_eq_none q] at g; cases g
      refine ⟨RO.mono kp (.refl J) (upd_ne fun z => e (r.inj _ _ (by rw [r.n]; exact hi) (by rw [r.n]; exact hkl) z).symm) q1, q2⟩
  · by_cases e : b = J.j k
    · rw [e, upd_same]; exact fun z => nomatch z
    · rw [upd_ne e]; exact r.mt b hb
end
/-- a dict of an error's fields -/
def XdAt (c : Ct) (H : Hp) (J : Jm) (d : Addr) (ns : List Sy) (vs : List D) : Prop := ∃ fs, H d = some (.xd fs) ∧ ¬ J.m d ∧ fs.map (·.1) = ns.map sy ∧ RVs c H J vs (fs.map (·.2))
theorem XdAt.aft {c : Ct} {H H' : Hp} {J J' : Jm} {S' : Sto} {d : Addr} {ns : List Sy} {vs : List D} (h : XdAt c H J d ns vs) (a : Aft c H J H' J' S') : XdAt c H' J' d ns vs :=
  let ⟨fs, e1, n, e2, v⟩ := h
  ⟨fs, (a.keep d _ e1 n).1, (a.keep d _ e1 n).2, e2, v.aft a⟩
/-- slots -/
structure RSt (c : Ct) (J : Jm) (env : En) (S : Sto) (σ : L2.St) (H : Hp) : Prop where
  rs : RS c H J S
  len : σ.length = env.length
  loc : ∀ (i : Nat) (d : D), env[i]? = some (.va d) → ∃ v, σ[i]? = some (some v) ∧ RV c H J d v
  ex : ∀ i, env[i]? = some .ex → ∃ x, c.xa = some x ∧ i = x.i ∧ σ[i]? = some (some (.ref x.a))
  xd : ∀ x, c.xa = some x → XdAt c H J x.d x.ns x.vs
  fu : ∀ i, env[i]? = some .fu → ∃ x, c.fx = some x ∧ i = x.i ∧ σ[i]? = some (some (.ref x.f))
  fk : ∀ x, c.fx = some x → H x.k = some (LamX.CodeO x.k x.q) ∧ ¬ J.m x.k
  fl : ∀ x, c.fx = some x → ∀ (i : Nat) (d : D), x.env[i]? = some (.va d) → ∃ v, x.σ[i]? = some (some v) ∧ RV c H J d v
theorem RSt.aft {c : Ct} {H H' : Hp} {J J' : Jm} {S S' : Sto} {env : En} {σ : L2.St} (r : RSt c J env S σ H) (a : Aft c H J H' J' S') : RSt c J' env S' σ H' :=
  ⟨a.rs, r.len, fun i d e => let ⟨v, e1, h⟩ := r.loc i d e; ⟨v, e1, h.aft a⟩, r.ex, fun x e => (r.xd x e).aft a, r.fu, fun x e => a.keep _ _ (r.fk x e).1 (r.fk x e).2, fun x ex i d e => let ⟨v, e1, h⟩ := r.fl x ex i d e; ⟨v, e1, h.aft a⟩⟩
theorem XdAt.aftw {c : Ct} {H H' : Hp} {J J' : Jm} {S' : Sto} {d : Addr} {ns : List Sy} {vs : List D} (h : XdAt c H J d ns vs) (a : AftW c H J H' J' S') : XdAt c H' J' d ns vs :=
  let ⟨fs, e1, n, e2, v⟩ := h
  ⟨fs, (a.keep d _ e1 n).1, (a.keep d _ e1 n).2, e2, v.aftw a⟩
theorem RSt.aftw {c : Ct} {H H' : Hp} {J J' : Jm} {S S' : Sto} {env : En} {σ : L2.St} (r : RSt c J env S σ H) (a : AftW c H J H' J' S') : RSt c J' env S' σ H' :=
  ⟨a.rs, r.len, fun i d e => let ⟨v, e1, h⟩ := r.loc i d e; ⟨v, e1, h.aftw a⟩, r.ex, fun x e => (r.xd x e).aftw a, r.fu, fun x e => a.keep _ _ (r.fk x e).1 (r.fk x e).2, fun x ex i d e => let ⟨v, e1, h⟩ := r.fl x ex i d e; ⟨v, e1, h.aftw a⟩⟩
theorem RSt.set {c : Ct} {H : Hp} {J : Jm} {S : Sto} {env : En} {σ : L2.St} (r : RSt c J env S σ H) {i : Nat} {d : D} {v : V} (h : RV c H J d v) : RSt c J (env.set i (.va d)) S (σ.set i (some v)) H :=
  ⟨r.rs, by simp [r.len], fun k x e => by
    by_cases q : i = k
    · subst q
      have h1 : i < env.length := by
        rcases Nat.lt_or_ge i env.length with z | z
        · exact z
        · rw [List.getElem?_eq_none (by simpa using z)] at e; cases e
      rw [List.getElem?_set_self h1] at e
      cases e
      exact ⟨v, List.getElem?_set_self (by rw [r.len]; exact h1), h⟩
    · rw [List.getElem?_set_ne q] at e ⊢
      exact r.loc k x e, fun k e => by
    by_cases q : i = k
    · subst q
      rcases Nat.lt_or_ge i env.length with z | z
      · rw [List.getElem?_set_self z] at e; cases e
      · rw [List.getElem?_eq_none (by simpa using z)] at e; cases e
    · rw [List.getElem?_set_ne q] at e ⊢
      exact r.ex k e, r.xd, fun k e => by
    by_cases q : i = k
    · subst q
      rcases Nat.lt_or_ge i env.length with z | z
      · rw [List.getElem?_set_self z] at e; cases e
      · rw [List.getElem?_eq_none (by simpa using z)] at e; cases e
    · rw [List.getElem?_set_ne q] at e ⊢
      exact r.fu k e, r.fk, r.fl⟩
theorem RSt.unset {c : Ct} {H : Hp} {J : Jm} {S : Sto} {env : En} {σ : L2.St} (r : RSt c J env S σ H) (i : Nat) (o : Option V) : RSt c J (env.set i .un) S (σ.set i o) H :=
  ⟨r.rs, by simp [r.len], fun k x e => by
    by_cases q : i = k
    · subst q
      rcases Nat.lt_or_ge i env.length with z | z
      · rw [List.getElem?_set_self z] at e; cases e
      · rw [List.getElem?_eq_none (by simpa using z)] at e; cases e
    · rw [List.getElem?_set_ne q] at e ⊢
      exact r.loc k x e, fun k e => by
    by_cases q : i = k
    · subst q
      rcases Nat.lt_or_ge i env.length with z | z
      · rw [List.getElem?_set_self z] at e; cases e
      · rw [List.getElem?_eq_none (by simpa using z)] at e; cases e
    · rw [List.getElem?_set_ne q] at e ⊢
      exact r.ex k e, r.xd, fun k e => by
    by_cases q : i = k
    · subst q
      rcases Nat.lt_or_ge i env.length with z | z
      · rw [List.getElem?_set_self z] at e; cases e
      · rw [List.getElem?_eq_none (by simpa using z)] at e; cases e
    · rw [List.getElem?_set_ne q] at e ⊢
      exact r.fu k e, r.fk, r.fl⟩
section
variable {c c' : Ct} {H H' : Hp} {J J' : Jm} {S : Sto}
theorem TupAt.xa (hk : c'.K = c.K) {a : Addr} {xs : List V} (h : TupAt c H J a xs) : TupAt c' H J a xs := by
  rcases h with h | ⟨e, o, its, n, h⟩
  · exact .inl h
  · exact .inr ⟨e, o, its, n, by rw [hk]; exact h⟩
theorem LstAt.xa (hk : c'.K = c.K) {a : Addr} {xs : List V} (h : LstAt c H J a xs) : LstAt c' H J a xs := by
  rcases h with h | ⟨o, its, n, h⟩
  · exact .inl h
  · exact .inr ⟨o, its, n, by rw [hk]; exact h⟩
mutual
theorem RV.xa (hk : c'.K = c.K) : ∀ (d : D) (v : V), RV c H J d v → RV c' H J d v
  | .non, _, h => h
  | .bl _, _, h => h
  | .int _, _, h => h
  | .str _, _, h => h
  | .tup ds, _, h => by
    obtain ⟨a, xs, e1, h1, h2⟩ := h
    exact ⟨a, xs, e1, h1.xa hk, RVs.xa hk ds xs h2⟩
  | .lst ds, _, h => by
    obtain ⟨a, xs, e1, h1, h2⟩ := h
    exact ⟨a, xs, e1, h1.xa hk, RVs.xa hk ds xs h2⟩
  | .dct _ _, _, h => h
  | .ref n, _, h => h
theorem RVs.xa (hk : c'.K = c.K) : ∀ (ds : List D) (vs : List V), RVs c H J ds vs → RVs c' H J ds vs
  | [], _, h => h
  | d :: r, _, h => by
    obtain ⟨v, t, e1, h1, h2⟩ := h
    exact ⟨v, t, e1, RV.xa hk d v h1, RVs.xa hk r t h2⟩
end
theorem RO.xa (hk : c'.K = c.K) (hc : c'.cad = c.cad) {a : Addr} : ∀ {o : Cn}, RO c H J a o → RO c' H J a o
  | .lst _, h => by
    obtain ⟨xs, e1, h1⟩ := h
    exact ⟨xs, e1, RVs.xa hk _ _ h1⟩
  | .dct _, h => by
    obtain ⟨xs, e1, e2, h1⟩ := h
    exact ⟨xs, e1, e2, RVs.xa hk _ _ h1⟩
  | .ins _ _ _, h => by
    obtain ⟨dx, fs, e1, e2, h1⟩ := h
    exact ⟨dx, fs, by rw [hk]; exact e1, e2, RVs.xa hk _ _ h1⟩
theorem RS.xa (hk : c'.K = c.K) (hc : c'.cad = c.cad) (ht : c'.T = c.T) (r : RS c H J S) : RS c' H J S := ⟨r.n, r.inj, fun k o e => ⟨(r.ob k o e).1.xa hk hc, (r.ob k o e).2⟩, r.mt, r.hd, by rw [ht]; exact r.tb, r.tt⟩
theorem Aft.xa (hk : c'.K = c.K) (hc : c'.cad = c.cad) (ht : c'.T = c.T) (a : Aft c H J H' J' S) : Aft c' H J H' J' S := ⟨a.rs.xa hk hc ht, a.ext, a.keep, a.held⟩
end
/-- what a result asks -/
def Post {α β : Type} (c : Ct) (W : WX) (σ : L2.St) (rel : Hp → Jm → α → β → Prop) (H : Hp) (J : Jm) (Q : β → Hp → Prop) : R α → Prop
  | .ok d S' => ∀ v H' J', Aft c H J H' J' S' → rel H' J' d v → Q v H'
  | .exc k ns vs S' => ∀ H' J' dx fs, Aft c H J H' J' S' → H' dx = some (.xd fs) → ¬ J'.m dx → fs.map (·.1) = ns.map sy → RVs c H' J' vs (fs.map (·.2)) → W (.ref (c.cad k)) (some dx) σ H'
  | .bad => False
/-- the reading of a meaning -/
def tG {α β : Type} (c : Ct) (W : WX) (rel : Hp → Jm → α → β → Prop) (m : En → MP.M α) : L2.St → Hp → (β → Hp → Prop) → Prop :=
  fun σ H Q => ∃ J env S, RSt c J env S σ H ∧ Post c W σ rel H J Q (m env S)
abbrev tM (c : Ct) (W : WX) (m : MP.E) : TE := tG c W (RV c) m
abbrev tA (c : Ct) (W : WX) (m : MP.Es) : TA := tG c W (RVs c) m
abbrev relB : Hp → Jm → Bool → Bool → Prop := fun _ _ a b => b = a
abbrev tT (c : Ct) (W : WX) (m : MP.T) : TT := tG c W relB m
section
variable {α β γ δ : Type} {c : Ct} {W : WX} {σ : L2.St} {rel : Hp → Jm → α → β → Prop} {rel' : Hp → Jm → γ → δ → Prop} {H H1 : Hp} {J J1 : Jm} {S S1 : Sto} {env : En}
theorem Post.weak {Q : β → Hp → Prop} {r : R α} (a : Aft c H J H1 J1 S1) (h : Post c W σ rel H J Q r) : Post c W σ rel H1 J1 Q r := by
  cases r with
  | ok d S' => exact fun v H' J' b => h v H' J' (a.trans b)
  | exc k ns vs S' => exact fun H' J' dx fs b => h H' J' dx fs (a.trans b)
  | bad => exact h
theorem Post.imp {Q Q' : β → Hp → Prop} {r : R α} (h : Post c W σ rel H J Q r) (k : ∀ v H', Q v H' → Q' v H') : Post c W σ rel H J Q' r := by
  cases r with
  | ok d S' => exact fun v H' J' b q => k _ _ (h v H' J' b q)
  | exc k ns vs S' => exact h
  | bad => exact h
/-- one after the other -/
theorem bind {Q : β → Hp → Prop} {m : En → MP.M γ} {k : γ → MP.M α} (r : RSt c J env S σ H) (h : Post c W σ rel H J Q (bd (m env) k S)) :
    tG c W rel' m σ H fun (v : δ) H1 => ∃ d S1 J1, Aft c H J H1 J1 S1 ∧ RSt c J1 env S1 σ H1 ∧ rel' H1 J1 d v ∧ Post c W σ rel H1 J1 Q (k d S1) := by
  refine ⟨J, env, S, r, ?_⟩
  unfold bd at h
  cases e : m env S with
  | ok d S' =>
    rw [e] at h
    intro v H' J' a q
    exact ⟨d, S', J', a, r.aft a, q, Post.weak a h⟩
  | exc k ns vs S' => rw [e] at h; exact h
  | bad => rw [e] at h; exact h
theorem tG.imp {Q Q' : β → Hp → Prop} {m : En → MP.M α} (h : tG c W rel m σ H Q) (k : ∀ v H', Q v H' → Q' v H') : tG c W rel m σ H Q' :=
  let ⟨J, env, S, r, p⟩ := h
  ⟨J, env, S, r, p.imp k⟩
/-- the end: a result, at hand -/
theorem Post.ok {Q : β → Hp → Prop} {d : α} {v : β} (rs : RS c H J S) (h : Post c W σ rel H J Q (pu d S)) (q : rel H J d v) : Q v H := h v H J (.refl rs) q
end
end MS
namespace MS
open PySem PySem.Spec PyProof.Rows L2
open MP (Sy D Cn Ob Sto R En bd pu no rz nx LIM)
theorem pe_imp {X : Cx} {e : Expr} {t t' : TE} (h : PE X e t) (k : ∀ σ H Q, t' σ H Q → t σ H Q) : PE X e t' := ⟨fun pins s σ H Q I w => h.run pins s σ H Q I (k σ H Q w)⟩
theorem pt_imp {X : Cx} {e : Expr} {t t' : TT} (h : PT X e t) (k : ∀ σ H Q, t' σ H Q → t σ H Q) : PT X e t' := ⟨fun pins s σ H Q I w => h.run pins s σ H Q I (k σ H Q w)⟩
theorem pw_imp {X : Cx} {e : Expr} {t t' : TT} (h : PW X e t) (k : ∀ σ H Q, t' σ H Q → t σ H Q) : PW X e t' := ⟨fun wh pins s σ H Q I w => h.run wh pins s σ H Q I (k σ H Q w)⟩
theorem pa_imp {X : Cx} {e : List Expr} {t t' : TA} (h : PA X e t) (k : ∀ σ H Q, t' σ H Q → t σ H Q) : PA X e t' := ⟨fun pos pins s σ H Q I w => h.run pos pins s σ H Q I (k σ H Q w)⟩
theorem ps_imp {X : Cx} {e : Stmt} {t t' : TS} (h : PS X e t) (k : ∀ D σ H, t' D σ H → t D σ H) : PS X e t' := ⟨fun pins s σ H D I w => h.run pins s σ H D I (k D σ H w)⟩
theorem pss_imp {X : Cx} {e : List Stmt} {t t' : TS} (h : PSs X e t) (k : ∀ D σ H, t' D σ H → t D σ H) : PSs X e t' := ⟨fun pins s σ H D I w => h.run pins s σ H D I (k D σ H w)⟩
section
variable {X : Cx} {c : Ct} {W : WX} {pos : Pos}
/-- a branch: of a result that is at hand -/
theorem post_pu {α β : Type} {rel : Hp → Jm → α → β → Prop} {σ : L2.St} {H : Hp} {J : Jm} {S : Sto} {Q : β → Hp → Prop} {d : α} {v : β} (rs : RS c H J S) (h : Post c W σ rel H J Q (pu d S)) (q : rel H J d v) : Q v H := h v H J (.refl rs) q
theorem post_if {α β : Type} {rel : Hp → Jm → α → β → Prop} {σ : L2.St} {H : Hp} {J : Jm} {S : Sto} {Q : β → Hp → Prop} {p : Prop} [Decidable p] {a : MP.M α} (h : Post c W σ rel H J Q ((if p then a else no) S)) : p ∧ Post c W σ rel H J Q (a S) := by
  by_cases q : p
  · rw [if_pos q] at h; exact ⟨q, h⟩
  · rw [if_neg q] at h; exact h.elim
theorem e_v (i : Nat) {x : Str} (hN : X.N[i]? = some x := by rfl) (hv : Vis X.env.scope x := by first | exact Or.inl rfl | exact Or.inr (Or.inl rfl) | exact Or.inr (Or.inr rfl)) (hd : (x == ("__debug__" : Str)) = false := by decide)
    (hcd : (x == ("__classdict__" : Str)) = false := by decide) : PE X (.Name x pos) (tM c W (MP.vE i)) := pe_imp (pv i hN hv hd hcd) fun σ H Q ⟨J, env, S, r, p⟩ => by
  unfold MP.vE at p
  cases e : env[i]? with
  | none => rw [e] at p; exact p.elim
  | some o =>
    cases o with
    | un => rw [e] at p; exact p.elim
    | ex => rw [e] at p; exact p.elim
    | fu => rw [e] at p; exact p.elim
    | va d =>
      rw [e] at p
      obtain ⟨v, e1, h⟩ := r.loc i d e
      exact ⟨v, e1, post_pu r.rs p h⟩
theorem e_int {i : Int} {k} : PE X (.Constant (.int i) k pos) (tM c W (MP.cE (.int i))) := pe_imp pe_int fun σ H Q ⟨J, env, S, r, p⟩ => post_pu r.rs p rfl
theorem e_bl {b : Bool} {k} : PE X (.Constant (.bool b) k pos) (tM c W (MP.cE (.bl b))) := pe_imp pe_bl fun σ H Q ⟨J, env, S, r, p⟩ => post_pu r.rs p rfl
theorem e_non {k} : PE X (.Constant .none k pos) (tM c W (MP.cE .non)) := pe_imp pe_non fun σ H Q ⟨J, env, S, r, p⟩ => post_pu r.rs p rfl
theorem e_str {x : Str} {s : Sy} {k} (e : x = sy s := by rfl) : PE X (.Constant (.str x) k pos) (tM c W (MP.cE (.str s))) := pe_imp pe_str fun σ H Q ⟨J, env, S, r, p⟩ => post_pu r.rs p (by show V.str x = _; rw [e])
/-- a constant of the module -/
theorem e_glob {x : Str} {u : Value} {d : D} (hg : Gl X x) (hm : X.mg x = some u) (rel : ∃ v, RelV v u ∧ ∀ H J, RV c H J d v) (hd : (x == ("__debug__" : Str)) = false := by decide) : PE X (.Name x pos) (tM c W (MP.cE d)) := by
  obtain ⟨v, r, h⟩ := rel
  exact pe_imp (pe_glob hg hm r hd) fun σ H Q ⟨J, env, S, r, p⟩ => post_pu r.rs p (h H J)
theorem a_nil : PA X [] (tA c W MP.nilA) := pa_imp pa_nil fun σ H Q ⟨J, env, S, r, p⟩ => post_pu r.rs p rfl
theorem a_cons {e : Expr} {es : List Expr} {m : MP.E} {ms : MP.Es} (ha : PE X e (tM c W m)) (hr : PA X es (tA c W ms)) (hs : starEach (e :: es) X.env = (false, eval e X.env) :: starEach es X.env := by rfl) : PA X (e :: es) (tA c W (MP.consA m ms)) :=
  pa_imp (pa_cons ha hr hs) fun σ H Q ⟨J, env, S, r, p⟩ => tG.imp (bind (rel' := RV c) r p) fun x H1 ⟨d, S1, J1, a1, r1, v1, p1⟩ => tG.imp (bind (rel' := RVs c) r1 p1) fun xs H2 ⟨ds, S2, J2, a2, r2, v2, p2⟩ =>
    post_pu r2.rs p2 (.cons (v1.aft a2) v2)
theorem lim_line : sizeLine = LIM := by rw [sizeLine_eq]; rfl
theorem e_tup {es : List Expr} {k} {ms : MP.Es} (h : PA X es (tA c W ms)) : PE X (.Tuple es k pos) (tM c W (MP.tupE ms)) := pe_imp (pe_tup h) fun σ H Q ⟨J, env, S, r, p⟩ =>
  tG.imp (bind (rel' := RVs c) r p) fun xs H1 ⟨ds, S1, J1, a1, r1, v1, p1⟩ => by
    obtain ⟨hl, p1⟩ := post_if p1
    refine ⟨by rw [lim_line, ← v1.length]; exact hl, fun q hq => p1 _ _ J1 (r1.rs.newT hq) (.tup r1.rs hq v1)⟩
/-- as Post, the new list at p unknown ahead -/
def PostF (c : Ct) (W : WX) (σ : L2.St) (H : Hp) (J : Jm) (Q : VK) : R (List D) → Prop
  | .ok ds S' => ∀ (p : Addr) (xs : List V) (H' : Hp) (J' : Jm), Aft c H J H' J' S' → J'.m p → ¬ J'.h p → (∀ k, k < J'.n → J'.j k ≠ p) → H' p = some (.lst xs) → RVs c H' J' ds xs → Q (.ref p) H'
  | .exc k ns vs S' => Post c W σ (RV c) H J Q (.exc k ns vs S')
  | .bad => False
def tF (c : Ct) (W : WX) (m : MP.Es) : TE := fun σ H Q => ∃ J env S, RSt c J env S σ H ∧ PostF c W σ H J Q (m env S)
/-- p is let go: it may not change any more -/
def Jm.fix (J : Jm) (p : Addr) : Jm := ⟨J.j, fun b => J.m b ∧ b ≠ p, J.n, J.h⟩
theorem RVs.fix {H : Hp} {J : Jm} {p : Addr} {ds : List D} {vs : List V} (h : RVs c H J ds vs) : RVs c H (J.fix p) ds vs :=
  RVs.mono (J' := J.fix p) (fun b o e n => ⟨e, fun z => n z.1⟩) ⟨Nat.le_refl _, fun _ _ => rfl⟩ ds vs h
theorem RS.fix {H : Hp} {J : Jm} {S : Sto} {p : Addr} {xs : List V} (r : RS c H J S) (hl : H p = some (.lst xs)) (nh : ¬ J.h p) (h : ∀ k, k < J.n → J.j k ≠ p) : RS c H (J.fix p) S := by
  have k : Keep H J H (J.fix p) := fun b o e n => ⟨e, fun z => n z.1⟩
  have ex : Ext J (J.fix p) := ⟨Nat.le_refl _, fun _ _ => rfl⟩
  refine ⟨r.n, r.inj, fun i o e => ⟨(r.ob i o e).1.mono k ex rfl, fun z => ⟨(r.ob i o e).2 z, h i ?_⟩⟩, fun b hb => r.mt b hb.1, fun b hb => ⟨⟨⟨(r.hd b hb).1.1, fun z => nh (z ▸ hb)⟩, (r.hd b hb).1.2⟩, (r.hd b hb).2⟩, r.tb, r.tt.any p (fun _ _ => rfl) (fun o e => by rw [hl] at e; cases e; exact plain_lst) fun b q => ⟨fun z => z.1, fun z => ⟨z, q⟩⟩⟩
  rw [r.n]
  rcases Nat.lt_or_ge i S.length with q | q
  · exact q
  · rw [List.getElem?_eq_none q] at e; cases e
theorem Aft.fix {H H' : Hp} {J J' : Jm} {S' : Sto} {p : Addr} {xs : List V} (a : Aft c H J H' J' S') (hl : H' p = some (.lst xs)) (nh : ¬ J'.h p) (h : ∀ k, k < J'.n → J'.j k ≠ p) : Aft c H J H' (J'.fix p) S' :=
  ⟨a.rs.fix hl nh h, ⟨a.ext.1, a.ext.2⟩, fun b o e n => ⟨(a.keep b o e n).1, fun z => (a.keep b o e n).2 z.1⟩, a.held⟩
/-- a new list as a value that stays -/
theorem e_frz {e : Expr} {m : MP.Es} (h : PE X e (tF c W m)) : PE X e (tM c W (MP.frzE m)) := pe_imp h fun σ H Q ⟨J, env, S, r, p⟩ => by
  refine ⟨J, env, S, r, ?_⟩
  unfold MP.frzE bd at p
  cases q : m env S with
  | ok ds S' =>
    rw [q] at p
    exact fun a xs H' J' af hm nh hj hl hv => p (.ref a) H' (J'.fix a) (af.fix hl nh hj) ⟨a, xs, rfl, .inl ⟨.inl hl, fun z => z.2 rfl⟩, hv.fix⟩
  | exc k ns vs S' => rw [q] at p; exact p
  | bad => rw [q] at p; exact p
/-- a new list laid in the store -/
def Jm.add (J : Jm) (p : Addr) : Jm := ⟨fun k => if k = J.n then p else J.j k, J.m, J.n + 1, J.h⟩
theorem Aft.add {H H' : Hp} {J J' : Jm} {S' : Sto} {p : Addr} {xs : List V} {ds : List D} (a : Aft c H J H' J' S') (hm : J'.m p) (nh : ¬ J'.h p) (hj : ∀ k, k < J'.n → J'.j k ≠ p) (hl : H' p = some (.lst xs)) (hv : RVs c H' J' ds xs) :
    Aft c H J H' (J'.add p) (S' ++ [⟨true, .lst ds⟩]) ∧ RV c H' (J'.add p) (.ref S'.length) (.ref p) := by
  have e : Ext J' (J'.add p) := ⟨Nat.le_succ _, fun i hi => if_neg (Nat.ne_of_lt hi)⟩
  have k : Keep H' J' H' (J'.add p) := fun b o e n => ⟨e, n⟩
  have jn : (J'.add p).j J'.n = p := if_pos rfl
  have rs : RS c H' (J'.add p) (S' ++ [⟨true, .lst ds⟩]) := by
    refine ⟨?_, fun x y hx hy q => ?_, fun i u g => ?_, a.rs.mt, fun b hb => ⟨(a.rs.hd b hb).1, fun i hi => ?_⟩, a.rs.tb, a.rs.tt⟩
    · show J'.n + 1 = _
      rw [List.length_append, a.rs.n] <;> rfl
    · have hx : x < J'.n + 1 := hx
      have hy : y < J'.n + 1 := hy
      rcases Nat.lt_or_ge x J'.n with qa | qa <;> rcases Nat.lt_or_ge y J'.n with qb | qb
      · rw [e.2 x qa, e.2 y qb] at q
        exact a.rs.inj x y qa qb q
      · have : y = J'.n := by omega
        subst this
        rw [e.2 x qa, jn] at q
        exact absurd q (hj x qa)
      · have : x = J'.n := by omega
        subst this
        rw [e.2 y qb, jn] at q
        exact absurd q.symm (hj y qb)
      · omega
    · rcases Nat.lt_or_ge i S'.length with q | q
      · rw [List.getElem?_append_left q] at g
        have hi : i < J'.n := by rw [a.rs.n]; exact q
        obtain ⟨g1, g2⟩ := a.rs.ob i u g
        rw [e.2 i hi]
        exact ⟨RO.mono k e rfl g1, g2⟩
      · rw [List.getElem?_append_right q] at g
        have : i = S'.length := by
          rcases Nat.lt_or_ge (i - S'.length) 1 with z | z
          · omega
          · rw [List.getElem?_eq_none (by simpa using z)] at g; cases g
        subst this
        simp at g
        subst g
        rw [← a.rs.n, jn]
        exact ⟨⟨xs, hl, RVs.mono k e _ _ hv⟩, fun _ => hm⟩
    · have hi : i < J'.n + 1 := hi
      rcases Nat.lt_or_ge i J'.n with q | q
      · rw [e.2 i q]; exact (a.rs.hd b hb).2 i q
      · have : i = J'.n := by omega
        subst this
        rw [jn]; exact fun z => nh (z ▸ hb)
  refine ⟨⟨rs, a.ext.trans e, a.keep.trans k, a.held⟩, ?_, ?_⟩
  · show S'.length < J'.n + 1
    rw [a.rs.n]; exact Nat.lt_succ_self _
  · show V.ref p = V.ref ((J'.add p).j S'.length)
    rw [← a.rs.n, jn]
theorem e_new {e : Expr} {m : MP.Es} (h : PE X e (tF c W m)) : PE X e (tM c W (MP.newE m)) := pe_imp h fun σ H Q ⟨J, env, S, r, p⟩ => by
  refine ⟨J, env, S, r, ?_⟩
  unfold MP.newE bd at p
  cases q : m env S with
  | ok ds S' =>
    rw [q] at p
    intro a xs H' J' af hm nh hj hl hv
    obtain ⟨af2, rv⟩ := af.add hm nh hj hl hv
    exact p (.ref a) H' (J'.add a) af2 rv
  | exc k ns vs S' => rw [q] at p; exact p
  | bad => rw [q] at p; exact p
/-- a list made at once at p -/
def Jm.mt (J : Jm) (p : Addr) : Jm := ⟨J.j, fun b => J.m b ∨ b = p, J.n, J.h⟩
theorem Aft.mt {H : Hp} {J : Jm} {S : Sto} {p : Addr} {xs : List V} (r : RS c H J S) (hp : H p = none) : Aft c H J (upd H p (.lst xs)) (J.mt p) S ∧ (∀ k, k < J.n → J.j k ≠ p) := by
  have np : ∀ b, H b ≠ none → b ≠ p := fun b h e => h (by rw [e]; exact hp)
  have k : Keep H J (upd H p (.lst xs)) (J.mt p) := fun b u e n => ⟨by rw [upd_ne (ne_of_none e hp)]; exact e, fun z => by
    rcases z with z | z
    · exact n z
    · exact ne_of_none e hp z⟩
  have ex : Ext J (J.mt p) := ⟨Nat.le_refl _, fun _ _ => rfl⟩
  refine ⟨⟨⟨r.n, r.inj, fun i u g => ⟨RO.mono k ex (upd_ne (np _ (r.ob i u g).1.there)) (r.ob i u g).1, fun z => .inl ((r.ob i u g).2 z)⟩, fun b hb => ?_, fun b hb => ⟨⟨.inl (r.hd b hb).1.1, ?_⟩, (r.hd b hb).2⟩, tb_new hp r.tb, r.tt.upd plain_lst fun b q => or_ne q⟩, ex, k, fun b hb => ⟨upd_ne (np b (r.mt b (r.hd b hb).1.1)), hb⟩⟩, fun k hk => np _ (r.live hk)⟩
  · rcases hb with hb | hb
    · rw [upd_ne (np b (r.mt b hb))]; exact r.mt b hb
    · rw [hb, upd_same]; exact fun z => nomatch z
  · rw [upd_ne (np b (r.mt b (r.hd b hb).1.1))]; exact (r.hd b hb).1.2
/-- the end of a reading that makes a list at once -/
theorem newPost {σ : L2.St} {H : Hp} {J : Jm} {S : Sto} {Q : VK} {ds : List D} {xs : List V} (rs : RS c H J S) (h : PostF c W σ H J Q (pu ds S)) (hv : RVs c H J ds xs) {p : Addr} (hp : H p = none) : Q (.ref p) (upd H p (.lst xs)) := by
  obtain ⟨a, hj⟩ := Aft.mt (xs := xs) rs hp
  exact h p xs _ (J.mt p) a (.inr rfl) (fun z => rs.mt p (rs.hd p z).1.1 hp) hj upd_same (hv.aft a)
theorem bindF {γ δ : Type} {rel' : Hp → Jm → γ → δ → Prop} {σ : L2.St} {H : Hp} {J : Jm} {S : Sto} {env : En} {Q : VK} {m : En → MP.M γ} {k : γ → MP.M (List D)} (r : RSt c J env S σ H) (h : PostF c W σ H J Q (bd (m env) k S)) :
    tG c W rel' m σ H fun (v : δ) H1 => ∃ d S1 J1, Aft c H J H1 J1 S1 ∧ RSt c J1 env S1 σ H1 ∧ rel' H1 J1 d v ∧ PostF c W σ H1 J1 Q (k d S1) := by
  refine ⟨J, env, S, r, ?_⟩
  unfold bd at h
  cases e : m env S with
  | ok d S' =>
    rw [e] at h
    intro v H' J' a q
    refine ⟨d, S', J', a, r.aft a, q, ?_⟩
    have h : PostF c W σ H J Q (k d S') := h
    cases e2 : k d S' with
    | ok ds S2 =>
      rw [e2] at h
      exact fun p xs H2 J2 b => h p xs H2 J2 (a.trans b)
    | exc k ns vs S2 =>
      rw [e2] at h
      exact Post.weak (Q := Q) (rel := RV c) (r := .exc k ns vs S2) a h
    | bad => rw [e2] at h; exact h
  | exc k ns vs S' => rw [e] at h; exact h
  | bad => rw [e] at h; exact h
theorem f_lst {es : List Expr} {ms : MP.Es} (h : PA X es (tA c W ms)) : PE X (.List es pos) (tF c W (MP.lstF ms)) := pe_imp (pe_lst h) fun σ H Q ⟨J, env, S, r, p⟩ =>
  tG.imp (bindF (rel' := RVs c) r p) fun xs H1 ⟨ds, S1, J1, a1, r1, v1, p1⟩ => by
    by_cases q : ds.length ≤ LIM
    · have p1 : PostF c W σ H1 J1 Q ((if ds.length ≤ LIM then pu ds else no) S1) := p1
      rw [if_pos q] at p1
      exact ⟨by rw [lim_line, ← v1.length]; exact q, fun a ha => newPost r1.rs p1 v1 ha⟩
    · have p1 : PostF c W σ H1 J1 Q ((if ds.length ≤ LIM then pu ds else no) S1) := p1
      rw [if_neg q] at p1
      exact p1.elim
end
end MS
namespace MS
open PySem PySem.Spec PyProof.Rows L2
open MP (Sy D Cn Ob Sto R En bd pu no rz nx LIM)
theorem sy_len (s : Sy) : (sy s).length = s.length := by simp [sy, Str.length]
theorem sy_app (a b : Sy) : sy a ++ sy b = sy (a ++ b) := by
  show Str.append (sy a) (sy b) = _
  simp [sy, Str.append]
theorem sy_inj {a b : Sy} (h : sy a = sy b) : a = b := by
  have e : (sy a).cps = (sy b).cps := by rw [h]
  simpa [sy] using e
section
variable {X : Cx} {c : Ct} {W : WX} {pos : Pos} {a b d : Expr} {ma mb md : MP.E}
def Im2 (c : Ct) (W : WX) (o : D → D → MP.M D) (r : R2) : Prop := ∀ {σ : L2.St} {H : Hp} {J : Jm} {S : Sto} {Q : VK} {d e : D} {x y : V}, RS c H J S → RV c H J d x → RV c H J e y → Post c W σ (RV c) H J Q (o d e S) → r x y H Q
theorem e_bin {op : Operator} {o : D → D → MP.M D} {r : R2} (ho : OpR X (binaryOp op) r) (im : Im2 c W o r) (ha : PE X a (tM c W ma)) (hb : PE X b (tM c W mb)) : PE X (.BinOp a op b pos) (tM c W (MP.binE o ma mb)) :=
  pe_imp (pe_op ho ha hb) fun σ H Q ⟨J, env, S, r, p⟩ => tG.imp (bind (rel' := RV c) r p) fun x H1 ⟨d, S1, J1, a1, r1, v1, p1⟩ => tG.imp (bind (rel' := RV c) r1 p1) fun y H2 ⟨e, S2, J2, a2, r2, v2, p2⟩ => im r2.rs (v1.aft a2) v2 p2
theorem im_add : Im2 c W MP.addO (fun x y H Q => (rI0 fun i j => .int (i + j)) x y H Q ∨ (∃ i j, x = .str i ∧ y = .str j ∧ i.length + j.length ≤ sizeLine ∧ Q (.str (i ++ j)) H) ∨ rCatA c.K x y H Q) := by
  intro σ H J S Q d e x y rs hx hy p
  cases d <;> cases e <;> try exact p.elim
  · cases hx; cases hy
    exact .inl ⟨_, _, rfl, rfl, post_pu rs p rfl⟩
  · cases hx; cases hy
    obtain ⟨hl, p⟩ := post_if p
    exact .inr (.inl ⟨_, _, rfl, rfl, by rw [sy_len, sy_len, lim_line]; exact hl, post_pu rs p (by rw [sy_app]; rfl)⟩)
  · obtain ⟨u, xs, rfl, h1, h2⟩ := hx
    obtain ⟨w, ys, rfl, g1, g2⟩ := hy
    obtain ⟨hl, p⟩ := post_if p
    have l1 := h2.length
    have l2 := g2.length
    refine .inr (.inr ⟨u, w, xs, ys, rfl, rfl, h1.sq, g1.sq, by rw [lim_line, ← l1, ← l2]; exact hl, fun e => ?_, fun _ e => ?_, fun _ _ q hq => ?_⟩)
    · subst e
      have : _ = [] := List.eq_nil_of_length_eq_zero l1
      rw [this] at p
      exact post_pu rs p ⟨w, ys, rfl, g1, g2⟩
    · subst e
      have : _ = [] := List.eq_nil_of_length_eq_zero l2
      rw [this, List.append_nil] at p
      exact post_pu rs p ⟨u, xs, rfl, h1, h2⟩
    · exact p _ _ J (rs.newT hq) (.tup rs hq (h2.app g2))
theorem e_add (hk : X.K = c.K) (ha : PE X a (tM c W ma)) (hb : PE X b (tM c W mb)) : PE X (.BinOp a .Add b pos) (tM c W (MP.binE MP.addO ma mb)) :=
  e_bin (.or op_add (.or op_add_str (by rw [← hk]; exact op_catA))) im_add ha hb
theorem im_sub : Im2 c W MP.subO (rI0 fun i j => .int (i - j)) := by
  intro σ H J S Q d e x y rs hx hy p
  cases d <;> cases e <;> try exact p.elim
  cases hx; cases hy
  exact ⟨_, _, rfl, rfl, post_pu rs p rfl⟩
theorem e_sub (ha : PE X a (tM c W ma)) (hb : PE X b (tM c W mb)) : PE X (.BinOp a .Sub b pos) (tM c W (MP.binE MP.subO ma mb)) := e_bin op_sub im_sub ha hb
/-- a tuple taken no time, or less -/
def rRep0 (K : PySem.W.Frag) : R2 := fun x y H Q => ∃ l k xs, x = .ref l ∧ y = .int k ∧ SqT K H l xs ∧ xs ≠ [] ∧ k ≤ 0 ∧ -1000000 ≤ k ∧ ∀ p, H p = none → Q (.ref p) (upd H p (.tup []))
theorem im_mul : Im2 c W MP.mulO (fun x y H Q => (rI CMulW fun i j => .int (i * j)) x y H Q ∨ rRepT c.K x y H Q ∨ (∃ u, x = .ref u ∧ y = .int 1 ∧ (∃ xs, SqT c.K H u xs ∧ xs ≠ []) ∧ Q x H) ∨ rRep0 c.K x y H Q) := by
  intro σ H J S Q d e x y rs hx hy p
  cases d <;> cases e <;> try exact p.elim
  · cases hx; cases hy
    obtain ⟨hl, p⟩ := post_if p
    exact .inl ⟨_, _, rfl, rfl, of_decide_eq_true (p := _ < 1000000) hl, post_pu rs p rfl⟩
  · rename_i ds k
    obtain ⟨u, xs, rfl, h1, h2⟩ := hx
    cases hy
    have l1 := h2.length
    have ne : ds ≠ [] → xs ≠ [] := fun h e => h (List.eq_nil_of_length_eq_zero (by rw [l1, e]; rfl))
    dsimp only [MP.mulO] at p
    by_cases q : ds ≠ [] ∧ 2 ≤ k ∧ k ≤ 1000 ∧ ds.length ≤ 1000
    · rw [if_pos q] at p
      refine .inr (.inl ⟨u, k, xs, rfl, rfl, h1.sq, ne q.1, q.2.1, q.2.2.1, by rw [← l1]; exact q.2.2.2, fun w hw => p _ _ J (rs.newT hw) (.tup rs hw ?_)⟩)
      have : ∀ n : Nat, RVs c H J (List.replicate n ds).flatten (List.replicate n xs).flatten := fun n => by
        induction n with
        | zero => exact .nil
        | succ n ih =>
          rw [List.replicate_succ, List.replicate_succ, List.flatten_cons, List.flatten_cons]
          exact h2.app ih
      exact this _
    · rw [if_neg q] at p
      by_cases q2 : ds ≠ [] ∧ k = 1
      · rw [if_pos q2] at p
        obtain ⟨g1, g2⟩ := q2
        subst g2
        exact .inr (.inr (.inl ⟨u, rfl, rfl, ⟨xs, h1.sq, ne g1⟩, post_pu rs p ⟨u, xs, rfl, h1, h2⟩⟩))
      · rw [if_neg q2] at p
        obtain ⟨⟨g1, g2, g3⟩, p2⟩ := post_if p
        exact .inr (.inr (.inr ⟨u, k, xs, rfl, rfl, h1.sq, ne g1, g2, g3, fun w hw => p2 _ _ J (rs.newT hw) (.tup rs hw .nil)⟩))
theorem tuple_mul1 (l : Addr) (items : Array Value) (n : Nat) (dd : Option Addr) (sl : Array (Option Value)) (u : Tok) :
    Meets (Builtin.«tuple.__mul__» ⟨[.ref l, .int 1 u], []⟩) (fun _ R s => s.heap.get? l = some { cls := .type "tuple", dict := dd, data := .seq items n, slots := sl } ∧ R (.ok (.ret (Value.ref l))) s) :=
  .of_wp fun prog w A R s h => by
    obtain ⟨hp, g, d, tk, os⟩ := s
    obtain ⟨hl, h⟩ := h
    have f1 := AutoSeq1.idx_int
    have c0 : (decide ((1 : Int) < -(2 ^ 63)) || decide ((1 : Int) ≥ 2 ^ 63)) = false := by decide
    have c1 : (items.isEmpty || (1 : Int) == 1) = true := by simp
    wp_walk using wpAny_loadPart' hl
    repeat (first
      | (refine wpAny_ite_false (decide_eq_false (by rw [c0]; exact Bool.false_ne_true)) ?_; wp_walk using wpAny_loadPart' hl)
      | (refine wpAny_ite_true (decide_eq_true c1) ?_; wp_walk using wpAny_loadPart' hl))
    exact ⟨_, rfl, h⟩
theorem op_rep1 : OpR X (binaryOp .Mult) (fun x y H Q => ∃ u, x = .ref u ∧ y = .int 1 ∧ (∃ xs, SqT X.K H u xs ∧ xs ≠ []) ∧ Q x H) := by
  intro pins s σ H x y v u Q I rx ry h
  obtain ⟨l, rfl, rfl, ⟨xs, hT, hne⟩, q⟩ := h
  cases rx
  obtain ⟨t, rfl⟩ := ry
  obtain ⟨its, r, ⟨⟨cls, dd, data, sl⟩, ho, hc, n, hd⟩, hs⟩ := I.tuple hT
  simp only at hc hd
  subst hc hd
  exact wpAny_binaryOp_repeat_ref (T := "tuple") (U := "int") (by decide) ⟨_, ho, rfl⟩ (fun s' => typeIs_int s' 1 t) noFill_tuple_mul PySem.F.fills_int_mul PySem.F.slot_int_rmul repeat_tuple PySem.F.slot_int_index.lookup
    (call_meets PySem.F.slot_int_rmul (typeIs_int s 1 t) PySem.F.entry_int_rmul (PySem.F.args_int_rmul_2 _ _) (int_rmul_tuple 1 t l its.toArray n dd sl)
      ⟨ho, rfl, ⟨_, ho, rfl⟩, call_meets PySem.F.slot_tuple_mul ⟨_, ho, rfl⟩ PySem.F.entry_tuple_mul (PySem.F.args_tuple_mul_2 _ _) (tuple_mul1 l its.toArray n dd sl t) ⟨ho, ⟨.ref l, H, I, rfl, q⟩⟩⟩)
theorem tuple_mul0 (l : Addr) (items : Array Value) (n : Nat) (dd : Option Addr) (sl : Array (Option Value)) (x : Int) (u : Tok) (b0 : (decide (x < -(2 ^ 63)) || decide (x ≥ 2 ^ 63)) = false) (b1 : (items.isEmpty || x == 1) = false) (b2 : (decide (x ≤ 0) || items.isEmpty) = true) :
    Meets (Builtin.«tuple.__mul__» ⟨[.ref l, .int x u], []⟩) (fun _ R s => s.heap.get? l = some { cls := .type "tuple", dict := dd, data := .seq items n, slots := sl } ∧ R (.ok (.ret (Value.ref s.heap.objs.size))) { s with heap := s.heap.push { cls := Value.type "tuple", data := Data.seq #[] }, toks := s.toks }) :=
  .of_wp fun prog w A R s h => by
    obtain ⟨hp, g, d, tk, os⟩ := s
    obtain ⟨hl, h⟩ := h
    have f1 := AutoSeq1.idx_int
    wp_walk using wpAny_loadPart' hl
    repeat (first
      | (refine wpAny_ite_false (decide_eq_false (by rw [b0]; exact Bool.false_ne_true)) ?_; wp_walk using wpAny_loadPart' hl)
      | (refine wpAny_ite_false (decide_eq_false (by rw [b1]; exact Bool.false_ne_true)) ?_; wp_walk using wpAny_loadPart' hl)
      | (refine wpAny_ite_true (decide_eq_true b2) ?_; wp_walk using wpAny_loadPart' hl))
    exact ⟨_, rfl, h⟩
theorem op_rep0 : OpR X (binaryOp .Mult) (rRep0 X.K) := by
  intro pins s σ H x y v u Q I rx ry h
  obtain ⟨l, k, xs, rfl, rfl, hT, hne, h0, h1, q⟩ := h
  cases rx
  obtain ⟨t, rfl⟩ := ry
  obtain ⟨its, r, ⟨⟨cls, dd, data, sl⟩, ho, hc, n, hd⟩, hs⟩ := I.tuple hT
  simp only at hc hd
  subst hc hd
  have some_ : its.toArray.isEmpty = false := by
    cases its with
    | nil => exact absurd (List.eq_nil_of_length_eq_zero r.length) hne
    | cons _ _ => rfl
  have b0 : (decide (k < -(2 ^ 63)) || decide (k ≥ 2 ^ 63)) = false := by simp; omega
  have b1 : (its.toArray.isEmpty || k == 1) = false := by
    rw [some_, Bool.false_or]
    exact beq_eq_false_iff_ne.mpr (by omega)
  have b2 : (decide (k ≤ 0) || its.toArray.isEmpty) = true := by rw [decide_eq_true h0, Bool.true_or]
  refine wpAny_binaryOp_repeat_ref (T := "tuple") (U := "int") (by decide) ⟨_, ho, rfl⟩ (fun s' => typeIs_int s' k t) noFill_tuple_mul PySem.F.fills_int_mul PySem.F.slot_int_rmul repeat_tuple PySem.F.slot_int_index.lookup
    (call_meets PySem.F.slot_int_rmul (typeIs_int s k t) PySem.F.entry_int_rmul (PySem.F.args_int_rmul_2 _ _) (int_rmul_tuple k t l its.toArray n dd sl)
      ⟨ho, rfl, ⟨_, ho, rfl⟩, call_meets PySem.F.slot_tuple_mul ⟨_, ho, rfl⟩ PySem.F.entry_tuple_mul (PySem.F.args_tuple_mul_2 _ _) (tuple_mul0 l its.toArray n dd sl k t b0 b1 b2) ⟨ho, ?_⟩⟩)
  exact ⟨.ref s.heap.objs.size, _, I.laid (t' := s.toks) (o := .tup []) (fun b ob e => Heap.get?_push_of_some _ e) (Nat.le_refl _) ⟨by rw [sizeLine_eq]; exact Nat.zero_le _, [], .nil, IsTup.new _ _⟩, rfl, q _ (I.hok.fresh (Nat.le_refl _))⟩
theorem e_mul (hk : X.K = c.K) (ha : PE X a (tM c W ma)) (hb : PE X b (tM c W mb)) : PE X (.BinOp a .Mult b pos) (tM c W (MP.binE MP.mulO ma mb)) :=
  e_bin (.or op_mulW (.or (by rw [← hk]; exact op_repT) (.or (by rw [← hk]; exact op_rep1) (by rw [← hk]; exact op_rep0)))) im_mul ha hb
/-- // by any divisor but nought -/
theorem op_fdivL : OpR X (binaryOp .FloorDiv) (rI (fun _ j => j ≠ 0 ∧ j.natAbs.log2 < 9000) fun i j => .int (i.fdiv j)) := opI fun _ _ _ _ _ _ _ hc q => floordiv_int hc.1 q (.inl (PyProof.noPylong_of_log2 hc.2))
theorem im_fdiv : Im2 c W MP.fdivO (fun x y H Q => (rI CDivW fun i j => .int (i / j)) x y H Q ∨ (rI (fun _ j => j ≠ 0 ∧ j.natAbs.log2 < 9000) fun i j => .int (i.fdiv j)) x y H Q) := by
  intro σ H J S Q d e x y rs hx hy p
  cases d <;> cases e <;> try exact p.elim
  rename_i i j
  cases hx; cases hy
  dsimp only [MP.fdivO] at p
  by_cases q : 0 < j ∧ j.natAbs.log2 < 9000
  · rw [if_pos q] at p
    exact .inl ⟨_, _, rfl, rfl, q, post_pu rs p rfl⟩
  · rw [if_neg q] at p
    obtain ⟨g, p⟩ := post_if p
    exact .inr ⟨_, _, rfl, rfl, g, post_pu rs p rfl⟩
theorem e_fdiv (ha : PE X a (tM c W ma)) (hb : PE X b (tM c W mb)) : PE X (.BinOp a .FloorDiv b pos) (tM c W (MP.binE MP.fdivO ma mb)) := e_bin (.or op_fdivW op_fdivL) im_fdiv ha hb
theorem im_mod : Im2 c W MP.modO (fun x y H Q => (rI (fun _ j => 0 < j) fun i j => .int (i % j)) x y H Q ∨ (rI (fun _ j => j ≠ 0) fun i j => .int (i.fmod j)) x y H Q) := by
  intro σ H J S Q d e x y rs hx hy p
  cases d <;> cases e <;> try exact p.elim
  rename_i i j
  cases hx; cases hy
  dsimp only [MP.modO] at p
  by_cases q : 0 < j
  · rw [if_pos q] at p
    exact .inl ⟨_, _, rfl, rfl, q, post_pu rs p rfl⟩
  · rw [if_neg q] at p
    obtain ⟨g, p⟩ := post_if p
    exact .inr ⟨_, _, rfl, rfl, g, post_pu rs p rfl⟩
theorem e_mod (ha : PE X a (tM c W ma)) (hb : PE X b (tM c W mb)) : PE X (.BinOp a .Mod b pos) (tM c W (MP.binE MP.modO ma mb)) := e_bin (.or op_mod op_modN) im_mod ha hb
theorem im_pow : Im2 c W MP.powO (rI CPow fun i j => .int (i ^ j.toNat)) := by
  intro σ H J S Q d e x y rs hx hy p
  cases d <;> cases e <;> try exact p.elim
  cases hx; cases hy
  obtain ⟨hl, p⟩ := post_if p
  exact ⟨_, _, rfl, rfl, hl, post_pu rs p rfl⟩
theorem e_pow (ha : PE X a (tM c W ma)) (hb : PE X b (tM c W mb)) : PE X (.BinOp a .Pow b pos) (tM c W (MP.binE MP.powO ma mb)) := e_bin op_pow im_pow ha hb
theorem e_neg (ha : PE X a (tM c W ma)) : PE X (.UnaryOp .USub a pos) (tM c W (MP.unE MP.negO ma)) := pe_imp (pe_un un_neg ha) fun σ H Q ⟨J, env, S, r, p⟩ =>
  tG.imp (bind (rel' := RV c) r p) fun x H1 ⟨d, S1, J1, a1, r1, v1, p1⟩ => by
    cases d <;> try exact p1.elim
    cases v1
    exact ⟨_, rfl, post_pu r1.rs p1 rfl⟩
theorem e_cmp {op : CmpOp} {o : D → D → MP.M D} {r : R2} (ho : OpR X (compareOp op) r) (im : Im2 c W o r) (ha : PE X a (tM c W ma)) (hb : PE X b (tM c W mb)) (hm : behindInMarks op b = false) : PE X (.Compare a [op] [b] pos) (tM c W (MP.binE o ma mb)) :=
  pe_imp (pe_cmpR ho ha hb hm) fun σ H Q ⟨J, env, S, r, p⟩ => tG.imp (bind (rel' := RV c) r p) fun x H1 ⟨d, S1, J1, a1, r1, v1, p1⟩ => tG.imp (bind (rel' := RV c) r1 p1) fun y H2 ⟨e, S2, J2, a2, r2, v2, p2⟩ => im r2.rs (v1.aft a2) v2 p2
theorem blO_only {σ : L2.St} {H : Hp} {J : Jm} {S : Sto} {Q : Bool → Hp → Prop} {d : D} {v : V} (rs : RS c H J S) (h : Post c W σ relB H J Q (MP.blO d S)) (hv : RV c H J d v) : ∃ k, v = .bl k ∧ Q k H := by
  cases d <;> first
    | exact h.elim
    | exact ⟨_, hv, post_pu rs h rfl⟩
/-- a comparison as a test -/
theorem t_cmp {op : CmpOp} {o : D → D → MP.M D} {r : R2} (ho : OpR X (compareOp op) r) (im : Im2 c W o r) (ha : PE X a (tM c W ma)) (hb : PE X b (tM c W mb)) (hm : behindInMarks op b = false) : PT X (.Compare a [op] [b] pos) (tT c W (MP.tb (MP.binE o ma mb))) :=
  pt_imp (pt_cmpR ho ha hb hm) fun σ H Q ⟨J, env, S, r, p⟩ => by
    have p : Post c W σ relB H J Q (bd (ma env) (fun x => bd (mb env) fun y => bd (o x y) MP.blO) S) := by
      have e : MP.tb (MP.binE o ma mb) env = bd (ma env) (fun x => bd (mb env) fun y => bd (o x y) MP.blO) := by simp only [MP.tb, MP.binE, MP.bd_bd]
      rw [e] at p
      exact p
    refine tG.imp (bind (rel' := RV c) r p) fun x H1 ⟨d, S1, J1, a1, r1, v1, p1⟩ => tG.imp (bind (rel' := RV c) r1 p1) fun y H2 ⟨e, S2, J2, a2, r2, v2, p2⟩ => ?_
    refine im (σ := σ) (Q := fun x H' => ∃ k, x = .bl k ∧ Q k H') r2.rs (v1.aft a2) v2 ?_
    have p2 : Post c W σ relB H2 J2 Q (bd (o d e) MP.blO S2) := p2
    unfold bd at p2
    cases q : o d e S2 with
    | ok z S3 =>
      rw [q] at p2
      exact fun v H' J' a3 hv => blO_only a3.rs (p2.weak a3) hv
    | exc k ns vs S3 => rw [q] at p2; exact p2
    | bad => rw [q] at p2; exact p2
theorem im_lt : Im2 c W MP.ltO (fun x y H Q => (rI0 fun i j => .bl (decide (i < j))) x y H Q ∨ (∃ i j, x = .str i ∧ y = .str j ∧ Q (.bl (decide (i.cps.toList < j.cps.toList))) H)) := by
  intro σ H J S Q d e x y rs hx hy p
  cases d <;> cases e <;> try exact p.elim
  · cases hx; cases hy
    exact .inl ⟨_, _, rfl, rfl, post_pu rs p rfl⟩
  · cases hx; cases hy
    exact .inr ⟨_, _, rfl, rfl, post_pu rs p (by show V.bl _ = V.bl _; congr 1)⟩
theorem im_le : Im2 c W MP.leO (fun x y H Q => (rI0 fun i j => .bl (decide (i ≤ j))) x y H Q ∨ (∃ i j, x = .str i ∧ y = .str j ∧ Q (.bl (decide (i.cps.toList ≤ j.cps.toList))) H)) := by
  intro σ H J S Q d e x y rs hx hy p
  cases d <;> cases e <;> try exact p.elim
  · cases hx; cases hy
    exact .inl ⟨_, _, rfl, rfl, post_pu rs p rfl⟩
  · cases hx; cases hy
    exact .inr ⟨_, _, rfl, rfl, post_pu rs p (by show V.bl _ = V.bl _; congr 1)⟩
theorem im_gt : Im2 c W MP.gtO (rI0 fun i j => .bl (decide (j < i))) := by
  intro σ H J S Q d e x y rs hx hy p
  cases d <;> cases e <;> try exact p.elim
  cases hx; cases hy
  exact ⟨_, _, rfl, rfl, post_pu rs p rfl⟩
theorem im_ge : Im2 c W MP.geO (rI0 fun i j => .bl (decide (j ≤ i))) := by
  intro σ H J S Q d e x y rs hx hy p
  cases d <;> cases e <;> try exact p.elim
  cases hx; cases hy
  exact ⟨_, _, rfl, rfl, post_pu rs p rfl⟩
end
end MS
namespace MS
open PySem PySem.Spec PyProof.Rows L2
open MP (Sy D Cn Ob Sto R En bd pu no rz nx LIM)
section
variable {X : Cx} {c : Ct} {W : WX} {pos : Pos} {a b d : Expr} {ma mb md : MP.E} {σ : L2.St} {H : Hp} {J : Jm} {S : Sto}
theorem items_of {α β : Type} {rel : Hp → Jm → α → β → Prop} {Q : β → Hp → Prop} {x : D} {v : V} {k : List D → MP.M α} (rs : RS c H J S) (hv : RV c H J x v) (p : Post c W σ rel H J Q (bd (MP.itemsO x) k S)) :
    ∃ ds a xs, v = .ref a ∧ (SqL c.K H a xs ∨ SqT c.K H a xs) ∧ RVs c H J ds xs ∧ Post c W σ rel H J Q (k ds S) := by
  cases x <;> try exact p.elim
  · obtain ⟨a, xs, rfl, h1, h2⟩ := hv
    exact ⟨_, a, xs, rfl, .inr h1.sq, h2, p⟩
  · obtain ⟨a, xs, rfl, h1, h2⟩ := hv
    exact ⟨_, a, xs, rfl, .inl h1.sq, h2, p⟩
  · rename_i n
    obtain ⟨h1, rfl⟩ := hv
    have p : Post c W σ rel H J Q ((bd (fun s => match s[n]? with | some ⟨_, .lst xs⟩ => .ok xs s | _ => .bad) k) S) := p
    unfold bd at p
    cases e : S[n]? with
    | none => simp only [e] at p; exact p.elim
    | some o =>
      obtain ⟨w, o⟩ := o
      cases o <;> simp only [e] at p <;> try exact p.elim
      obtain ⟨⟨xs, g1, g2⟩, _⟩ := rs.ob n _ e
      exact ⟨_, _, xs, rfl, .inl (.inl (.inl g1)), g2, p⟩
mutual
def toPD : D → PyData
  | .bl b => .bool b
  | .int i => .int i
  | .str s => .str (sy s)
  | .tup xs => .tuple (toPDs xs)
  | .lst xs => .list (toPDs xs)
  | _ => .none
def toPDs : List D → List PyData
  | [] => []
  | d :: r => toPD d :: toPDs r
end
mutual
theorem dp_of : ∀ (d : D) (v : V), MP.noRef d = true → MP.shp k d = true → RV c H J d v → Dp c.K H v (toPD d)
  | .non, _, _, _, h => by cases h; exact .non
  | .bl b, _, _, _, h => by cases h; exact .bl b
  | .int i, _, _, _, h => by cases h; exact .int i
  | .str s, _, _, _, h => by cases h; exact .str _
  | .tup xs, _, n, s, h => by
    obtain ⟨a, ys, rfl, h1, h2⟩ := h
    cases k with
    | zero => cases s
    | succ k => exact .tup h1.sq (dps_of (k := k) xs ys n s h2)
  | .lst xs, _, n, s, h => by
    obtain ⟨a, ys, rfl, h1, h2⟩ := h
    cases k with
    | zero => cases s
    | succ k => exact .lst h1.sq (dps_of (k := k) xs ys n s h2)
  | .dct _ _, _, _, _, h => h.elim
  | .ref _, _, n, _, _ => by cases n
theorem dps_of : ∀ (ds : List D) (vs : List V), MP.noRefs ds = true → MP.shps k ds = true → RVs c H J ds vs → DpAll c.K H vs (toPDs ds)
  | [], _, _, _, h => by cases h; exact .nil
  | d :: r, _, n, s, h => by
    obtain ⟨v, t, rfl, h1, h2⟩ := h
    have n : (MP.noRef d && MP.noRefs r) = true := n
    have s : (MP.shp k d && MP.shps k r) = true := s
    rw [Bool.and_eq_true] at n s
    exact .cons (dp_of d v n.1 s.1 h1) (dps_of r t n.2 s.2 h2)
end
mutual
theorem shp_lay : ∀ (k : Nat) (d : D), MP.shp k d = true → (toPD d).canLay0 = true ∧ (toPD d).depth ≤ k
  | _, .non, _ => ⟨rfl, Nat.zero_le _⟩
  | _, .bl _, _ => ⟨rfl, Nat.zero_le _⟩
  | _, .int _, _ => ⟨rfl, Nat.zero_le _⟩
  | _, .str s, h => ⟨by
    show PyData.strOk (sy s) = true
    have h : s.all (· < 0x110000) = true := h
    simp only [PyData.strOk, sy]
    simpa using h, Nat.zero_le _⟩
  | k, .tup xs, h => by
    cases k with
    | zero => cases h
    | succ k =>
      obtain ⟨h1, h2⟩ := shps_lay k xs h
      exact ⟨h1, Nat.succ_le_succ h2⟩
  | k, .lst xs, h => by
    cases k with
    | zero => cases h
    | succ k =>
      obtain ⟨h1, h2⟩ := shps_lay k xs h
      exact ⟨h1, Nat.succ_le_succ h2⟩
  | _, .dct _ _, h => nomatch h
  | _, .ref _, h => nomatch h
theorem shps_lay : ∀ (k : Nat) (ds : List D), MP.shps k ds = true → PyData.canLayAll0 (toPDs ds) = true ∧ PyData.depthAll (toPDs ds) ≤ k
  | _, [], _ => ⟨rfl, Nat.zero_le _⟩
  | k, d :: r, h => by
    have h : (MP.shp k d && MP.shps k r) = true := h
    rw [Bool.and_eq_true] at h
    obtain ⟨a1, a2⟩ := shp_lay k d h.1
    obtain ⟨b1, b2⟩ := shps_lay k r h.2
    refine ⟨?_, Nat.max_le.mpr ⟨a2, b2⟩⟩
    show (PyData.canLay0 _ && PyData.canLayAll0 _) = true
    rw [a1, b1] <;> rfl
end
theorem beq_sy (x y : Sy) : (sy x == sy y) = (x == y) := by
  rw [Bool.eq_iff_iff, beq_iff_eq, beq_iff_eq]
  exact ⟨sy_inj, fun e => by rw [e]⟩
mutual
theorem eqv_py : ∀ (k : Nat) (x y : D), MP.shp k x = true → MP.shp k y = true → PyData.eqv (toPD x) (toPD y) = MP.pyEq x y
  | _, .non, y, _, h => by cases y <;> first | rfl | cases h
  | _, .bl _, y, _, h => by cases y <;> first | rfl | cases h
  | _, .int _, y, _, h => by cases y <;> first | rfl | cases h
  | _, .str _, y, _, h => by cases y <;> first | rfl | exact beq_sy _ _ | cases h
  | k, .tup xs, y, g, h => by
    cases k with
    | zero => cases g
    | succ k => cases y <;> first | rfl | cases h; done | exact eqvs_py k xs _ g h
  | k, .lst xs, y, g, h => by
    cases k with
    | zero => cases g
    | succ k => cases y <;> first | rfl | cases h; done | exact eqvs_py k xs _ g h
  | _, .dct _ _, _, h, _ => nomatch h
  | _, .ref _, _, h, _ => nomatch h
theorem eqvs_py : ∀ (k : Nat) (xs ys : List D), MP.shps k xs = true → MP.shps k ys = true → PyData.eqvAll (toPDs xs) (toPDs ys) = MP.pyEqs xs ys
  | _, [], ys, _, _ => by cases ys <;> rfl
  | k, x :: r, ys, g, h => by
    cases ys with
    | nil => rfl
    | cons y s =>
      have g : (MP.shp k x && MP.shps k r) = true := g
      have h : (MP.shp k y && MP.shps k s) = true := h
      rw [Bool.and_eq_true] at g h
      show (PyData.eqv _ _ && PyData.eqvAll _ _) = (MP.pyEq x y && MP.pyEqs r s)
      rw [eqv_py k x y g.1 h.1, eqvs_py k r s g.2 h.2]
end
theorem deep_of {x x' : D} {v : V} {k : Nat} (rs : RS c H J S) (hv : RV c H J x v) (e : MP.deepO S x = some x') (s : MP.shp k x' = true) : Dp c.K H v (toPD x') := by
  have plain : (if MP.noRef x then some x else none) = some x' → Dp c.K H v (toPD x') := fun e => by
    by_cases q : MP.noRef x = true
    · rw [if_pos q] at e
      cases e
      exact dp_of x v q s hv
    · rw [if_neg q] at e; cases e
  cases x <;> try exact plain e
  rename_i n
  obtain ⟨h1, rfl⟩ := hv
  unfold MP.deepO at e
  cases q : S[n]? with
  | none => simp only [q] at e; cases e
  | some o =>
    obtain ⟨w, o⟩ := o
    cases o <;> simp only [q] at e <;> try cases e
    rename_i xs
    by_cases z : MP.noRefs xs = true
    · rw [if_pos z] at e
      cases e
      obtain ⟨⟨ys, g1, g2⟩, _⟩ := rs.ob n _ q
      cases k with
      | zero => cases s
      | succ k => exact .lst (.inl (.inl g1)) (dps_of (k := k) xs ys z s g2)
    · rw [if_neg z] at e; cases e
theorem im_eqD {neg : Bool} {Q : VK} {x y : D} {u v : V} (rs : RS c H J S) (hx : RV c H J x u) (hy : RV c H J y v) (p : Post c W σ (RV c) H J Q ((if neg then MP.neO x y else MP.eqO x y) S)) :
    ∃ d e, Dp c.K H u d ∧ Dp c.K H v e ∧ SeqAt.shaped d = true ∧ SeqAt.shaped e = true ∧ Q (.bl (if neg then !PyData.eqv d e else PyData.eqv d e)) H := by
  cases ex : MP.deepO S x with
  | none => cases neg <;> simp only [MP.neO, MP.eqO, ex, if_true, Bool.false_eq_true, if_false] at p <;> exact p.elim
  | some x' =>
    cases ey : MP.deepO S y with
    | none => cases neg <;> simp only [MP.neO, MP.eqO, ex, ey, if_true, Bool.false_eq_true, if_false] at p <;> exact p.elim
    | some y' =>
      have key : (MP.shp 60 x' && MP.shp 60 y') = true := by
        by_cases q : (MP.shp 60 x' && MP.shp 60 y') = true
        · exact q
        · cases neg <;> simp only [MP.neO, MP.eqO, ex, ey, if_true, Bool.false_eq_true, if_false, q] at p <;> exact p.elim
      have kk := key
      rw [Bool.and_eq_true] at key
      obtain ⟨l1, l2⟩ := shp_lay 60 x' key.1
      obtain ⟨m1, m2⟩ := shp_lay 60 y' key.2
      refine ⟨toPD x', toPD y', deep_of rs hx ex key.1, deep_of rs hy ey key.2, ?_, ?_, ?_⟩
      · unfold SeqAt.shaped
        rw [l1, decide_eq_true (by omega)] <;> rfl
      · unfold SeqAt.shaped
        rw [m1, decide_eq_true (by omega)] <;> rfl
      · rw [eqv_py 60 x' y' key.1 key.2]
        cases neg <;> simp only [MP.neO, MP.eqO, ex, ey, if_true, Bool.false_eq_true, if_false, kk] at p ⊢ <;> exact post_pu (α := D) (rel := RV c) (S := S) (d := .bl _) rs p rfl
theorem im_eq : Im2 c W MP.eqO (rEqD c.K) := fun rs hx hy p => im_eqD (neg := false) rs hx hy p
theorem im_ne : Im2 c W MP.neO (rNeD c.K) := fun rs hx hy p => im_eqD (neg := true) rs hx hy p
end
end MS
namespace MS
open PySem PySem.Spec PyProof.Rows L2
open MP (Sy D Cn Ob Sto R En bd pu no rz nx LIM)
section
variable {X : Cx} {c : Ct} {W : WX} {pos : Pos} {a b d : Expr} {ma mb md : MP.E} {σ : L2.St} {H : Hp} {J : Jm} {S : Sto}
theorem flat_of {x : D} {v : V} (h : MP.flatD x = true) (hv : RV c H J x v) : flatV v = true := by
  cases x <;> first
    | (cases hv; rfl)
    | cases h
theorem flats_of : ∀ {xs : List D} {vs : List V}, xs.all MP.flatD = true → RVs c H J xs vs → vs.all flatV = true
  | [], _, _, h => by cases h; rfl
  | x :: r, _, f, h => by
    obtain ⟨v, t, rfl, h1, h2⟩ := h
    rw [List.all_cons, Bool.and_eq_true] at f
    rw [List.all_cons, flat_of f.1 h1, flats_of f.2 h2] <;> rfl
theorem eqV_py {x y : D} {u v : V} (hx : MP.flatD x = true) (hy : MP.flatD y = true) (h : RV c H J x u) (g : RV c H J y v) : eqV u v = MP.pyEq x y := by
  cases x <;> cases hx <;> cases y <;> cases hy <;> cases h <;> cases g <;> first | rfl | exact beq_sy _ _
theorem inV_py {x : D} {v : V} (hx : MP.flatD x = true) (h : RV c H J x v) : ∀ {ys : List D} {vs : List V}, ys.all MP.flatD = true → RVs c H J ys vs → inV v vs = ys.any fun a => MP.pyEq a x
  | [], _, _, g => by cases g; rfl
  | y :: r, _, f, g => by
    obtain ⟨w, t, rfl, g1, g2⟩ := g
    rw [List.all_cons, Bool.and_eq_true] at f
    show (eqV w v || inV v t) = (MP.pyEq y x || r.any fun a => MP.pyEq a x)
    rw [eqV_py f.1 hx g1 h, inV_py hx h f.2 g2]
/-- in: a sign in a text; a flat thing in a row -/
def rInG (K : PySem.W.Frag) (neg : Bool) : R2 := fun x y H Q => rIn K neg x y H Q ∨ ∃ (k : Nat) (z : Str), x = .str ⟨#[k]⟩ ∧ y = .str z ∧ Q (.bl (if neg then !decide (k ∈ z.cps.toList) else decide (k ∈ z.cps.toList))) H
theorem op_inG : OpR X (compareOp .In) (rInG X.K false) := .or op_in_seq fun pins s σ H x y v u Q I rx ry ⟨k, z, e1, e2, q⟩ => op_in_sign pins s σ H x y v u Q I rx ry ⟨k, z, e1, e2, q⟩
theorem inStr_of {neg : Bool} {x : D} {z : Sy} {u : V} {Q : VK} (rs : RS c H J S) (hx : RV c H J x u) (p : Post c W σ (RV c) H J Q (MP.inStr neg x z S)) :
    ∃ k : Nat, u = .str ⟨#[k]⟩ ∧ Q (.bl (if neg then !decide (k ∈ (sy z).cps.toList) else decide (k ∈ (sy z).cps.toList))) H := by
  cases x <;> try exact p.elim
  rename_i s
  cases hx
  have e : ∀ k : Nat, decide (k ∈ (sy z).cps.toList) = decide (k ∈ z) := fun k => decide_eq_decide.mpr (by simp [sy])
  match s, p with
  | [k], p => exact ⟨k, rfl, by rw [e]; exact post_pu rs p rfl⟩
  | [], p => exact p.elim
  | _ :: _ :: _, p => exact p.elim
theorem inSeq_of {neg : Bool} {x y : D} {u v : V} {Q : VK} (rs : RS c H J S) (hx : RV c H J x u) (hy : RV c H J y v) (p : Post c W σ (RV c) H J Q (bd (MP.itemsO y) (MP.inSeq neg x) S)) : rIn c.K neg u v H Q := by
  obtain ⟨ds, a, xs, rfl, hs, hv, p⟩ := items_of rs hy p
  obtain ⟨f, p⟩ := post_if p
  rw [Bool.and_eq_true] at f
  exact ⟨a, xs, rfl, hs, flat_of f.1 hx, flats_of f.2 hv, by rw [inV_py f.1 hx f.2 hv]; exact post_pu rs p rfl⟩
theorem im_in : Im2 c W MP.inO (rInG c.K false) := by
  intro σ H J S Q x y u v rs hx hy p
  cases y
  case str z =>
    cases hy
    obtain ⟨k, e, q⟩ := inStr_of (neg := false) rs hx p
    exact .inr ⟨k, sy z, e, rfl, q⟩
  all_goals exact .inl (inSeq_of (neg := false) rs hx hy p)
theorem at_of {ds : List D} {xs : List V} {i : Int} {d : D} (h : RVs c H J ds xs) (e : ((MP.ixO ds.length i).bind fun k => ds[k]?) = some d) : ∃ v, atI xs i = some v ∧ RV c H J d v := by
  have hl := h.length
  cases q : MP.ixO ds.length i with
  | none => rw [q] at e; cases e
  | some k =>
    rw [q] at e
    obtain ⟨v, e1, h1⟩ := h.get (i := k) e
    refine ⟨v, ?_, h1⟩
    have q : ixN xs.length i = some k := by rw [← hl]; exact q
    unfold atI
    rw [q]
    exact e1
theorem idxSeq_of {i : Int} {x : D} {u : V} {Q : VK} (rs : RS c H J S) (hx : RV c H J x u) (p : Post c W σ (RV c) H J Q (bd (MP.itemsO x) (MP.idxSeq i) S)) : rIx c.K u (.int i) H Q := by
  obtain ⟨ds, a, xs, rfl, hs, hv, p⟩ := items_of rs hx p
  unfold MP.idxSeq at p
  cases q : (MP.ixO ds.length i).bind fun k => ds[k]? with
  | none => simp only [q] at p; exact p.elim
  | some d =>
    simp only [q] at p
    obtain ⟨w, e, hw⟩ := at_of hv q
    rcases hs with hs | hs
    · exact .inl ⟨a, xs, i, w, rfl, rfl, hs, e, post_pu rs p hw⟩
    · exact .inr (.inl ⟨a, xs, i, w, rfl, rfl, hs, e, post_pu rs p hw⟩)
theorem im_idx : Im2 c W MP.idxO (rIx c.K) := by
  intro σ H J S Q x y u v rs hx hy p
  cases y
  case int i =>
    cases hy
    cases x
    case str z =>
      cases hx
      have p : Post c W σ (RV c) H J Q (MP.idxStr i z S) := p
      unfold MP.idxStr at p
      obtain ⟨hl, p⟩ := post_if p
      cases q : (MP.ixO z.length i).bind fun k => z[k]? with
      | none => simp only [q] at p; exact p.elim
      | some k =>
        simp only [q] at p
        refine .inr (.inr ⟨sy z, i, k, rfl, rfl, by rw [sy_len, lim_line]; exact hl, ?_, post_pu rs p rfl⟩)
        have e : (sy z).cps.toList = z := by simp [sy]
        unfold atI
        rw [e]
        exact q
    all_goals exact idxSeq_of rs hx p
  all_goals exact p.elim
theorem e_idx (hk : X.K = c.K) (ha : PE X a (tM c W ma)) (hb : PE X b (tM c W mb)) (hs : PlainIx b := by exact fun _ _ => rfl) : PE X (.Subscript a b pos) (tM c W (MP.binE MP.idxO ma mb)) :=
  pe_imp (pe_ix (by rw [← hk]; exact ix_seq : IxR X (rIx c.K)) ha hb hs) fun σ H Q ⟨J, env, S, r, p⟩ => tG.imp (bind (rel' := RV c) r p) fun x H1 ⟨d, S1, J1, a1, r1, v1, p1⟩ => tG.imp (bind (rel' := RV c) r1 p1) fun y H2 ⟨e, S2, J2, a2, r2, v2, p2⟩ => im_idx r2.rs (v1.aft a2) v2 p2
theorem cut_sIx (n d : Nat) (o : Option Int) : MP.endO n d o = HT.sIx n d o := by cases o <;> rfl
theorem cut_of {ds : List D} {xs : List V} (lo hi : Option Int) (h : RVs c H J ds xs) : RVs c H J (MP.cutL ds lo hi) (cutV xs lo hi) := by
  unfold MP.cutL cutV
  rw [cut_sIx, cut_sIx, h.length]
  exact (h.drop _).take _
abbrev relO : Hp → Jm → Option Int → Option Int → Prop := fun _ _ a b => b = a
theorem o_none : PO X none (tG c W relO (MP.part none)) := ⟨fun pins s σ H Q I h => po_none.run pins s σ H Q I (let ⟨J, env, S, r, p⟩ := h; post_pu (c := c) (W := W) (σ := σ) (rel := relO) r.rs p rfl)⟩
theorem o_some (h : PE X a (tM c W ma)) : PO X (some a) (tG c W relO (MP.part (some ma))) := ⟨fun pins s σ H Q I w => (po_some h).run pins s σ H Q I (by
    obtain ⟨J, env, S, r, p⟩ := w
    exact tG.imp (bind (rel' := RV c) r p) fun x H1 ⟨d, S1, J1, a1, r1, v1, p1⟩ => by
      cases d <;> try exact p1.elim
      cases v1
      exact ⟨_, rfl, post_pu (c := c) (W := W) (σ := σ) (rel := relO) r1.rs p1 rfl⟩)⟩
/-- a text's slice -/
theorem sl_txt {lo hi : Option Expr} {ml mh : Option MP.E} {p2 : Pos} (hk : X.K = c.K) (ha : PE X a (tM c W ma)) (hl : PO X lo (tG c W relO (MP.part ml))) (hh : PO X hi (tG c W relO (MP.part mh)))
    (hstr : SlR X (fun x lo hi H Q => ∃ z, x = .str z ∧ z.length ≤ sizeLine ∧ Q (.str (cutS z lo hi)) H)) : PE X (.Subscript a (.Slice lo hi none p2) pos) (tM c W (MP.slcE ma ml mh)) :=
  pe_imp (pe_slice (.or hstr (by rw [← hk]; exact sl_tupA : SlR X (rSlA c.K))) ha hl hh) fun σ H Q ⟨J, env, S, r, p⟩ =>
    tG.imp (bind (rel' := RV c) r p) fun x H1 ⟨d, S1, J1, a1, r1, v1, p1⟩ => tG.imp (bind (rel' := relO) r1 p1) fun y H2 ⟨l, S2, J2, a2, r2, e2, p2⟩ => tG.imp (bind (rel' := relO) r2 p2) fun z H3 ⟨h, S3, J3, a3, r3, e3, p3⟩ => by
      have e2 : y = l := e2
      have e3 : z = h := e3
      subst e2 e3
      have v3 := (v1.aft a2).aft a3
      cases d <;> try exact p3.elim
      · cases v3
        obtain ⟨hz, p3⟩ := post_if p3
        refine .inl ⟨_, rfl, by rw [sy_len, lim_line]; exact hz, post_pu r3.rs p3 ?_⟩
        show V.str _ = V.str _
        congr 1
      · obtain ⟨t, xs, rfl, h1, h2⟩ := v3
        have hl := h2.length
        refine .inr ⟨t, xs, rfl, h1.sq, fun w => ?_, fun _ q hq => p3 _ _ J3 (r3.rs.newT hq) (.tup r3.rs hq (cut_of _ _ h2))⟩
        refine post_pu r3.rs p3 ⟨t, xs, rfl, h1, ?_⟩
        have e := cut_of (c := c) (H := H3) (J := J3) y z h2
        unfold cutV at e
        rw [w.1, w.2, List.drop_zero, Nat.sub_zero, List.take_length] at e
        exact e
theorem e_slc {lo hi : Option Expr} {ml mh : Option MP.E} {p2 : Pos} (hk : X.K = c.K) (ha : PE X a (tM c W ma)) (hl : PO X lo (tG c W relO (MP.part ml))) (hh : PO X hi (tG c W relO (MP.part mh))) :
    PE X (.Subscript a (.Slice lo hi none p2) pos) (tM c W (MP.slcE ma ml mh)) := sl_txt hk ha hl hh sl_str
/-- a list's slice: a new list -/
theorem f_slc {lo hi : Option Expr} {ml mh : Option MP.E} {p2 : Pos} (hk : X.K = c.K) (ha : PE X a (tM c W ma)) (hl : PO X lo (tG c W relO (MP.part ml))) (hh : PO X hi (tG c W relO (MP.part mh))) :
    PE X (.Subscript a (.Slice lo hi none p2) pos) (tF c W (MP.slcF ma ml mh)) :=
  pe_imp (pe_slice (by rw [← hk]; exact sl_list : SlR X (rSlL c.K)) ha hl hh) fun σ H Q ⟨J, env, S, r, p⟩ =>
    tG.imp (bindF (rel' := RV c) r p) fun x H1 ⟨d, S1, J1, a1, r1, v1, p1⟩ => tG.imp (bindF (rel' := relO) r1 p1) fun y H2 ⟨l, S2, J2, a2, r2, e2, p2⟩ => tG.imp (bindF (rel' := relO) r2 p2) fun z H3 ⟨h, S3, J3, a3, r3, e3, p3⟩ => by
      have e2 : y = l := e2
      have e3 : z = h := e3
      subst e2 e3
      have v3 := (v1.aft a2).aft a3
      cases d with
      | lst ds =>
        obtain ⟨t, xs, rfl, h1, h2⟩ := v3
        exact ⟨t, xs, rfl, h1.sq, fun q hq => newPost r3.rs p3 (cut_of _ _ h2) hq⟩
      | ref n =>
        obtain ⟨_, rfl⟩ := v3
        cases e : S3[n]? with
        | none => simp only [e] at p3; exact p3.elim
        | some o =>
          obtain ⟨w, o⟩ := o
          cases o <;> simp only [e] at p3 <;> try exact p3.elim
          obtain ⟨⟨xs, g1, g2⟩, _⟩ := r3.rs.ob n _ e
          exact ⟨_, xs, rfl, .inl (.inl g1), fun q hq => newPost r3.rs p3 (cut_of _ _ g2) hq⟩
      | _ => exact p3.elim
theorem tru_of {x : D} {v : V} {Q : Bool → Hp → Prop} (rs : RS c H J S) (hv : RV c H J x v) (p : Post c W σ relB H J Q (MP.truO x S)) : ∃ k, TruV c.K v H k ∧ Q k H := by
  have em : ∀ {ds : List D} {xs : List V}, RVs c H J ds xs → (!xs.isEmpty) = !ds.isEmpty := fun {ds xs} h => by
    cases ds with
    | nil => cases h; rfl
    | cons d r => obtain ⟨v, t, rfl, _, _⟩ := h; rfl
  cases x <;> try exact p.elim
  · cases hv; exact ⟨_, rfl, post_pu rs p rfl⟩
  · cases hv; exact ⟨_, rfl, post_pu rs p rfl⟩
  · cases hv; exact ⟨_, rfl, post_pu rs p rfl⟩
  · rename_i z
    cases hv
    obtain ⟨hl, p⟩ := post_if p
    refine ⟨!z.isEmpty, ⟨by rw [sy_len, lim_line]; exact hl, ?_⟩, post_pu rs p rfl⟩
    rw [sy_len]
    cases z <;> simp [bne]
    rename_i a b
    omega
  · obtain ⟨a, xs, rfl, h1, h2⟩ := hv
    exact ⟨_, .inr (.inl ⟨xs, h1.sq, rfl⟩), post_pu rs p (em h2)⟩
  · obtain ⟨a, xs, rfl, h1, h2⟩ := hv
    exact ⟨_, .inl ⟨xs, h1.sq, rfl⟩, post_pu rs p (em h2)⟩
  · rename_i n
    obtain ⟨_, rfl⟩ := hv
    unfold MP.truO at p
    cases e : S[n]? with
    | none => simp only [e] at p; exact p.elim
    | some o =>
      obtain ⟨w, o⟩ := o
      cases o <;> simp only [e] at p <;> try exact p.elim
      obtain ⟨⟨xs, g1, g2⟩, _⟩ := rs.ob n _ e
      exact ⟨_, .inl ⟨xs, .inl (.inl g1), rfl⟩, post_pu (S := S) rs p (em g2)⟩
/-- a value as a test -/
theorem t_tst (hk : X.K = c.K) (ha : PE X a (tM c W ma)) (he : ∀ whole, isTrue a X.env whole = (do let v ← whole; standAt a.pos; holding [v] (truthy v)) := by intro _; rfl) : PT X a (tT c W (MP.tst ma)) :=
  pt_imp (pt_truth ha he) fun σ H Q ⟨J, env, S, r, p⟩ => tG.imp (bind (rel' := RV c) r p) fun x H1 ⟨d, S1, J1, a1, r1, v1, p1⟩ => by rw [hk]; exact tru_of r1.rs v1 p1
variable {ta tb : MP.T}
theorem w_and1 (ha : PT X a (tT c W ta)) : PW X (.BoolOp .And [a] pos) (tT c W ta) := pw_and1 ha
theorem w_or1 (ha : PT X a (tT c W ta)) : PW X (.BoolOp .Or [a] pos) (tT c W ta) := pw_or1 ha
theorem w_and {rest : List Expr} (ha : PT X a (tT c W ta)) (hb : PW X (.BoolOp .And (b :: rest) pos) (tT c W tb)) : PW X (.BoolOp .And (a :: b :: rest) pos) (tT c W (MP.andT ta tb)) :=
  pw_imp (pw_and ha hb) fun σ H Q ⟨J, env, S, r, p⟩ => tG.imp (bind (rel' := relB) r p) fun k H1 ⟨k', S1, J1, a1, r1, e, p1⟩ => by
    have e : k = k' := e
    subst e
    cases k with
    | true => exact ⟨J1, env, S1, r1, p1⟩
    | false => exact post_pu (rel := relB) r1.rs p1 rfl
theorem w_or {rest : List Expr} (ha : PT X a (tT c W ta)) (hb : PW X (.BoolOp .Or (b :: rest) pos) (tT c W tb)) : PW X (.BoolOp .Or (a :: b :: rest) pos) (tT c W (MP.orT ta tb)) :=
  pw_imp (pw_or ha hb) fun σ H Q ⟨J, env, S, r, p⟩ => tG.imp (bind (rel' := relB) r p) fun k H1 ⟨k', S1, J1, a1, r1, e, p1⟩ => by
    have e : k = k' := e
    subst e
    cases k with
    | false => exact ⟨J1, env, S1, r1, p1⟩
    | true => exact post_pu (rel := relB) r1.rs p1 rfl
theorem t_not (ha : PT X a (tT c W ta)) : PT X (.UnaryOp .Not a pos) (tT c W (MP.notT ta)) :=
  pt_imp (pt_not ha) fun σ H Q ⟨J, env, S, r, p⟩ => tG.imp (bind (rel' := relB) r p) fun k H1 ⟨k', S1, J1, a1, r1, e, p1⟩ => by
    have e : k = k' := e
    subst e
    exact post_pu (rel := relB) r1.rs p1 rfl
theorem bl_of {x : D} {v : V} {α β : Type} {rel : Hp → Jm → α → β → Prop} {Q : β → Hp → Prop} {k : Bool → MP.M α} (hv : RV c H J x v) (p : Post c W σ rel H J Q (bd (MP.blO x) k S)) : ∃ b, v = .bl b ∧ Post c W σ rel H J Q (k b S) := by
  cases x <;> first
    | exact p.elim
    | exact ⟨_, hv, p⟩
theorem e_one {op} (ha : PE X a (tM c W ma)) : PE X (.BoolOp op [a] pos) (tM c W ma) := pe_one ha
theorem e_and {rest : List Expr} (ha : PE X a (tM c W ma)) (hb : PE X (.BoolOp .And (b :: rest) pos) (tM c W mb)) : PE X (.BoolOp .And (a :: b :: rest) pos) (tM c W (MP.andE ma mb)) :=
  pe_imp (pe_and ha hb) fun σ H Q ⟨J, env, S, r, p⟩ => tG.imp (bind (rel' := RV c) r p) fun x H1 ⟨d, S1, J1, a1, r1, v1, p1⟩ => by
    obtain ⟨k, e, p1⟩ := bl_of v1 p1
    refine ⟨k, e, ?_⟩
    cases k with
    | true => exact ⟨J1, env, S1, r1, p1⟩
    | false => exact post_pu (rel := RV c) r1.rs p1 rfl
theorem e_or {rest : List Expr} (ha : PE X a (tM c W ma)) (hb : PE X (.BoolOp .Or (b :: rest) pos) (tM c W mb)) : PE X (.BoolOp .Or (a :: b :: rest) pos) (tM c W (MP.orE ma mb)) :=
  pe_imp (pe_or ha hb) fun σ H Q ⟨J, env, S, r, p⟩ => tG.imp (bind (rel' := RV c) r p) fun x H1 ⟨d, S1, J1, a1, r1, v1, p1⟩ => by
    obtain ⟨k, e, p1⟩ := bl_of v1 p1
    refine ⟨k, e, ?_⟩
    cases k with
    | false => exact ⟨J1, env, S1, r1, p1⟩
    | true => exact post_pu (rel := RV c) r1.rs p1 rfl
theorem e_not (ha : PE X a (tM c W ma)) : PE X (.UnaryOp .Not a pos) (tM c W (MP.notE ma)) :=
  pe_imp (pe_not ha) fun σ H Q ⟨J, env, S, r, p⟩ => tG.imp (bind (rel' := RV c) r p) fun x H1 ⟨d, S1, J1, a1, r1, v1, p1⟩ => by
    obtain ⟨k, e, p1⟩ := bl_of v1 p1
    exact ⟨k, e, post_pu (rel := RV c) r1.rs p1 rfl⟩
theorem e_if {t : Expr} (ht : PT X t (tT c W ta)) (ha : PE X a (tM c W ma)) (hb : PE X b (tM c W mb)) : PE X (.IfExp t a b pos) (tM c W (MP.ifE ta ma mb)) :=
  pe_imp (pe_ifExp ht ha hb) fun σ H Q ⟨J, env, S, r, p⟩ => tG.imp (bind (rel' := relB) r p) fun k H1 ⟨k', S1, J1, a1, r1, e, p1⟩ => by
    have e : k = k' := e
    subst e
    cases k with
    | true => exact ⟨J1, env, S1, r1, p1⟩
    | false => exact ⟨J1, env, S1, r1, p1⟩
theorem non_iff : ∀ {d : D} {v : V}, RV c H J d v → (v = .non ↔ d = .non)
  | .non, _, h => by cases h; simp
  | .bl _, _, h => by cases h; simp
  | .int _, _, h => by cases h; simp
  | .str _, _, h => by cases h; simp
  | .tup _, _, h => by obtain ⟨_, _, rfl, _⟩ := h; simp
  | .lst _, _, h => by obtain ⟨_, _, rfl, _⟩ := h; simp
  | .dct _ _, _, h => h.elim
  | .ref _, _, h => by obtain ⟨_, rfl⟩ := h; simp
theorem e_isn (ha : PE X a (tM c W ma)) {k p'} : PE X (.Compare a [.Is] [.Constant .none k p'] pos) (tM c W (MP.unE MP.isnO ma)) :=
  pe_imp (pe_cmp (pc_isN ha)) fun σ H Q ⟨J, env, S, r, p⟩ => tG.imp (bind (rel' := RV c) r p) fun x H1 ⟨d, S1, J1, a1, r1, v1, p1⟩ => post_pu (rel := RV c) r1.rs p1 (by
    show V.bl _ = V.bl _
    congr 1
    exact decide_eq_decide.mpr (non_iff v1))
/-- is None as a test -/
theorem t_isn (ha : PE X a (tM c W ma)) {k p'} : PT X (.Compare a [.Is] [.Constant .none k p'] pos) (tT c W (MP.tb (MP.unE MP.isnO ma))) :=
  pt_imp (pt_cmp (pc_isN ha)) fun σ H Q ⟨J, env, S, r, p⟩ => by
    have e : MP.tb (MP.unE MP.isnO ma) env = bd (ma env) fun d => pu (decide (d = .non)) := by simp only [MP.tb, MP.unE, MP.bd_bd]; rfl
    rw [e] at p
    exact tG.imp (bind (rel' := RV c) r p) fun x H1 ⟨d, S1, J1, a1, r1, v1, p1⟩ => ⟨_, rfl, post_pu (rel := relB) r1.rs p1 (by
      exact decide_eq_decide.mpr (non_iff v1))⟩
theorem ch_read {o o' : D → D → MP.M D} {r r' : R2} {Q : VK} (im : Im2 c W o r) (im' : Im2 c W o' r') (h : tM c W (MP.chE o o' ma mb md) σ H Q) : tChain r r' (tM c W ma) (tM c W mb) (tM c W md) σ H Q :=
  let ⟨J, env, S, r, p⟩ := h; tG.imp (bind (rel' := RV c) r p) fun x H1 ⟨u, S1, J1, a1, r1, v1, p1⟩ => tG.imp (bind (rel' := RV c) r1 p1) fun y H2 ⟨v, S2, J2, a2, r2, v2, p2⟩ => by
    refine im (σ := σ) (Q := fun z H3 => ∃ k, z = .bl k ∧ (if k = true then _ else _)) r2.rs (v1.aft a2) v2 ?_
    unfold bd at p2
    cases q : o u v S2 with
    | ok z S3 =>
      rw [q] at p2
      intro w H3 J3 a3 hw
      cases z <;> try exact p2.elim
      rename_i k
      refine ⟨k, hw, ?_⟩
      cases k with
      | true =>
        rw [if_pos rfl]
        have p3 : Post c W σ (RV c) H3 J3 Q (bd (md env) (fun w => o' v w) S3) := Post.weak a3 p2
        exact tG.imp (bind (rel' := RV c) (r2.aft a3) p3) fun z H4 ⟨w, S4, J4, a4, r4, v4, p4⟩ => im' r4.rs ((v2.aft a3).aft a4) v4 p4
      | false =>
        rw [if_neg Bool.false_ne_true]
        exact post_pu (rel := RV c) (d := .bl false) a3.rs (Post.weak a3 p2) rfl
    | exc k ns vs S3 => rw [q] at p2; exact p2
    | bad => rw [q] at p2; exact p2
/-- a op b op' c -/
theorem e_ch {op op' : CmpOp} {o o' : D → D → MP.M D} {r r' : R2} (ho : OpR X (compareOp op) r) (ho' : OpR X (compareOp op') r') (im : Im2 c W o r) (im' : Im2 c W o' r') (ha : PE X a (tM c W ma)) (hb : PE X b (tM c W mb)) (hd : PE X d (tM c W md))
    (hm : lastMarks [op, op'] [b, d] = false := by with_unfolding_all rfl) : PE X (.Compare a [op, op'] [b, d] pos) (tM c W (MP.chE o o' ma mb md)) := pe_imp (pe_chain ho ho' ha hb hd hm) fun σ H Q h => ch_read im im' h
/-- a test's reading as a value's -/
theorem tb_read {Q : Bool → Hp → Prop} (h : tT c W (MP.tb ma) σ H Q) : tM c W ma σ H (fun v H1 => ∃ k, v = .bl k ∧ Q k H1) :=
  let ⟨J, env, S, r, p⟩ := h
  tG.imp (bind (rel' := RV c) r p) fun x H1 ⟨d, S1, J1, a1, r1, v1, p1⟩ => blO_only r1.rs p1 v1
end
end MS
namespace MS
open PySem PySem.Spec PyProof.Rows L2
open MP (Sy D Cn Ob Sto R En bd pu no rz nx LIM)
section
variable {X : Cx} {c : Ct} {W : WX} {pos p : Pos} {a b d e : Expr} {es : List Expr} {ma mb md : MP.E} {ms : MP.Es} {σ : L2.St} {H : Hp} {J : Jm} {S : Sto} {x : Str}
def ImC (c : Ct) (W : WX) (g : List D → MP.M D) (r : List V → Hp → VK → Prop) : Prop := ∀ {σ : L2.St} {H : Hp} {J : Jm} {S : Sto} {Q : VK} {ds : List D} {xs : List V}, RS c H J S → RVs c H J ds xs → Post c W σ (RV c) H J Q (g ds S) → r xs H Q
theorem e_bi {id : String} {g : List D → MP.M D} {r : List V → Hp → VK → Prop} (hc : CallR X (.builtin id) r) (im : ImC c W g r) (hg : Gl X x) (hm : X.mg x = none) (hv : bootBuiltins x = some (.builtin id)) (ha : PA X (e :: es) (tA c W ms)) (hn : x ≠ "__name__" := by decide)
    (hdb : (x == ("__debug__" : Str)) = false := by decide) (he : starEach (e :: es) X.env = (false, eval e X.env) :: starEach es X.env := by rfl) (hpl : (backTo pos (starEach es X.env)).any (·.1) = false := by rfl) : PE X (.Call (.Name x p) (e :: es) [] pos) (tM c W (MP.biE g ms)) :=
  pe_imp (pe_callB hc hg hm hv ha hn hdb he hpl) fun σ H Q ⟨J, env, S, r, p⟩ => tG.imp (bind (rel' := RVs c) r p) fun xs H1 ⟨ds, S1, J1, a1, r1, v1, p1⟩ => im r1.rs v1 p1
theorem e_ty {T : String} {g : List D → MP.M D} {r : List V → Hp → VK → Prop} (hc : CallR X (.type T) r) (im : ImC c W g r) (hg : Gl X x) (hm : X.mg x = none) (hv : bootBuiltins x = some (.type T)) (ha : PA X (e :: es) (tA c W ms)) (hn : x ≠ "__name__" := by decide)
    (hdb : (x == ("__debug__" : Str)) = false := by decide) (he : starEach (e :: es) X.env = (false, eval e X.env) :: starEach es X.env := by rfl) (hpl : (backTo pos (starEach es X.env)).any (·.1) = false := by rfl) : PE X (.Call (.Name x p) (e :: es) [] pos) (tM c W (MP.biE g ms)) :=
  pe_imp (pe_callTy hc hg hm hv ha hn hdb he hpl) fun σ H Q ⟨J, env, S, r, p⟩ => tG.imp (bind (rel' := RVs c) r p) fun xs H1 ⟨ds, S1, J1, a1, r1, v1, p1⟩ => im r1.rs v1 p1
theorem one_of {ds : List D} {xs : List V} {d : D} (e : ds = [d]) (h : RVs c H J ds xs) : ∃ v, xs = [v] ∧ RV c H J d v := by
  subst e
  obtain ⟨v, t, rfl, h1, h2⟩ := h
  cases h2
  exact ⟨v, rfl, h1⟩
theorem im_len : ImC c W MP.lenO (fun xs H Q => (∃ p ys, xs = [.ref p] ∧ (SqL c.K H p ys ∨ SqT c.K H p ys) ∧ Q (.int ys.length) H) ∨ ∃ z, xs = [.str z] ∧ z.length ≤ sizeLine ∧ Q (.int z.length) H) := by
  intro σ H J S Q ds xs rs hv p
  match ds, p with
  | [], p => exact p.elim
  | _ :: _ :: _, p => exact p.elim
  | [d], p =>
    obtain ⟨v, rfl, h⟩ := one_of rfl hv
    have p : Post c W σ (RV c) H J Q (MP.len1 d S) := p
    have seqc : Post c W σ (RV c) H J Q (bd (MP.itemsO d) (fun xs => pu (.int xs.length)) S) → ∃ p ys, [v] = [.ref p] ∧ (SqL c.K H p ys ∨ SqT c.K H p ys) ∧ Q (.int ys.length) H := fun p => by
      obtain ⟨es, a, ys, rfl, hs, h2, p⟩ := items_of rs h p
      exact ⟨a, ys, rfl, hs, post_pu rs p (by show V.int _ = V.int _; rw [h2.length])⟩
    cases d with
    | str z =>
      cases h
      obtain ⟨hl, p⟩ := post_if p
      exact .inr ⟨sy z, rfl, by rw [sy_len, lim_line]; exact hl, post_pu rs p (by show V.int _ = V.int _; rw [sy_len])⟩
    | _ => exact .inl (seqc p)
theorem e_len (hk : X.K = c.K) (hg : Gl X "len") (hm : X.mg "len" = none) (ha : PE X a (tM c W ma)) (he : starEach [a] X.env = (false, eval a X.env) :: starEach [] X.env := by rfl) : PE X (.Call (.Name "len" p) [a] [] pos) (tM c W (MP.biE MP.lenO (MP.consA ma MP.nilA))) :=
  e_bi (.or (by rw [← hk]; exact call_len_seq) call_len_str) im_len hg hm PySem.boot_len (a_cons ha a_nil he) (he := he)
theorem ints_of : ∀ {ds : List D} {xs : List V} {l : List Int}, MP.intOf ds = some l → RVs c H J ds xs → xs = l.map V.int
  | [], _, _, e, h => by cases h; cases e; rfl
  | d :: r, _, l, e, h => by
    obtain ⟨v, t, rfl, h1, h2⟩ := h
    cases d <;> try cases e
    rename_i i
    cases h1
    have e : (MP.intOf r).map (i :: ·) = some l := e
    cases q : MP.intOf r with
    | none => rw [q] at e; cases e
    | some l2 =>
      rw [q] at e
      cases e
      rw [ints_of q h2, List.map_cons]
theorem cr_sumT (hc : X.calm = true) : CallR X (.builtin "sum") (fun vs H Q => ∃ (a : Addr) (ns : List Int), vs = [V.ref a] ∧ SqT X.K H a (ns.map V.int) ∧ Q (.int ns.sum) H) := by
  intro pins s σ H vs us Q I r h
  obtain ⟨a, ns, rfl, hs, q⟩ := h
  obtain ⟨its, rv, ht, _⟩ := I.tuple hs
  rw [Vals.ref1 r]
  have hi := rv.ints
  obtain ⟨xs, e⟩ := hi.allInts.items
  have hn : numsOf (intItems xs).toList = ns := by rw [← e]; exact hi.numsOf
  rw [nums_intItems] at hn
  rw [e] at ht
  refine PySem.W.ktm_sumG (I.ok.hd hc) (show s.heap.IsTuple a (intItems xs) from ht) fun h' tk t' hk => ⟨.int ns.sum, H, I.kept hk, ⟨t', ?_⟩, q⟩
  rw [preSum_eq, List.take_of_length_le (by simp), hn]
theorem im_sum : ImC c W MP.sumO (fun vs H Q => rSum c.K vs H Q ∨ (∃ (a : Addr) (ns : List Int), vs = [V.ref a] ∧ SqT c.K H a (ns.map V.int) ∧ Q (.int ns.sum) H)) := by
  intro σ H J S Q ds xs rs hv p
  match ds, p with
  | [], p => exact p.elim
  | _ :: _ :: _, p => exact p.elim
  | [d], p =>
    obtain ⟨v, rfl, h⟩ := one_of rfl hv
    obtain ⟨es, a, ys, rfl, hs, h2, p⟩ := items_of rs h p
    cases q : MP.intOf es with
    | none => simp only [q] at p; exact p.elim
    | some l =>
      simp only [q] at p
      have e := ints_of q h2
      subst e
      rcases hs with hs | hs
      · exact .inl ⟨a, l, rfl, hs, post_pu rs p rfl⟩
      · exact .inr ⟨a, l, rfl, hs, post_pu rs p rfl⟩
theorem e_sum (hc : X.calm = true) (hk : X.K = c.K) (hg : Gl X "sum") (hm : X.mg "sum" = none) (ha : PE X a (tM c W ma)) (he : starEach [a] X.env = (false, eval a X.env) :: starEach [] X.env := by rfl) : PE X (.Call (.Name "sum" p) [a] [] pos) (tM c W (MP.biE MP.sumO (MP.consA ma MP.nilA))) :=
  e_bi (.or (by rw [← hk]; exact cr_sum hc) (by rw [← hk]; exact cr_sumT hc)) im_sum hg hm (by decide +kernel) (a_cons ha a_nil he) (he := he)
theorem minL_le : ∀ (l : List Int) (a : Int), MP.minL a l ≤ a ∧ (∀ y ∈ l, MP.minL a l ≤ y) ∧ (MP.minL a l = a ∨ MP.minL a l ∈ l)
  | [], a => ⟨Int.le_refl _, (fun _ h => nomatch h), .inl rfl⟩
  | x :: r, a => by
    have e : MP.minL a (x :: r) = MP.minL (if x < a then x else a) r := rfl
    rw [e]
    obtain ⟨h1, h2, h3⟩ := minL_le r (if x < a then x else a)
    by_cases q : x < a
    · rw [if_pos q] at h1 h2 h3 ⊢
      refine ⟨by omega, fun y hy => ?_, ?_⟩
      · rcases List.mem_cons.mp hy with rfl | hy
        · exact h1
        · exact h2 y hy
      · rcases h3 with h3 | h3
        · exact .inr (by rw [h3]; exact List.mem_cons_self)
        · exact .inr (List.mem_cons_of_mem _ h3)
    · rw [if_neg q] at h1 h2 h3 ⊢
      refine ⟨h1, fun y hy => ?_, ?_⟩
      · rcases List.mem_cons.mp hy with rfl | hy
        · omega
        · exact h2 y hy
      · rcases h3 with h3 | h3
        · exact .inl h3
        · exact .inr (List.mem_cons_of_mem _ h3)
theorem maxL_le : ∀ (l : List Int) (a : Int), a ≤ MP.maxL a l ∧ (∀ y ∈ l, y ≤ MP.maxL a l) ∧ (MP.maxL a l = a ∨ MP.maxL a l ∈ l)
  | [], a => ⟨Int.le_refl _, (fun _ h => nomatch h), .inl rfl⟩
  | x :: r, a => by
    have e : MP.maxL a (x :: r) = MP.maxL (if a < x then x else a) r := rfl
    rw [e]
    obtain ⟨h1, h2, h3⟩ := maxL_le r (if a < x then x else a)
    by_cases q : a < x
    · rw [if_pos q] at h1 h2 h3 ⊢
      refine ⟨by omega, fun y hy => ?_, ?_⟩
      · rcases List.mem_cons.mp hy with rfl | hy
        · exact h1
        · exact h2 y hy
      · rcases h3 with h3 | h3
        · exact .inr (by rw [h3]; exact List.mem_cons_self)
        · exact .inr (List.mem_cons_of_mem _ h3)
    · rw [if_neg q] at h1 h2 h3 ⊢
      refine ⟨h1, fun y hy => ?_, ?_⟩
      · rcases List.mem_cons.mp hy with rfl | hy
        · omega
        · exact h2 y hy
      · rcases h3 with h3 | h3
        · exact .inl h3
        · exact .inr (List.mem_cons_of_mem _ h3)
/-- a number as a datum -/
theorem holds_int {h : Heap} {v : Value} {i : Int} (q : PySem.W.Holds h v i) : ∃ t, v = .int i t := by
  obtain ⟨as, r⟩ := q
  have r : Reads h v (.int i) as := r
  cases r
  exact ⟨_, rfl⟩
theorem holds_ints {h : Heap} : ∀ {us : List Value} {ns : List Int}, IntsAre us ns → PySem.W.HoldAll h us ns
  | _, _, .nil => ⟨_, ReadsAll.nil⟩
  | _, _, .cons n t r => by
    obtain ⟨as, q⟩ := holds_ints (h := h) r
    exact ⟨_, ReadsAll.cons (Reads.int n t) q⟩
theorem cr_minT (hc : X.calm = true) (hu : X.A.units + 64 < cLine) : CallR X (.builtin "min") (fun vs H Q => ∃ (a : Addr) (n : Int) (ns : List Int), vs = [V.ref a] ∧ SqT X.K H a ((n :: ns).map V.int) ∧ Q (.int (PySem.W.minOf n ns)) H) := by
  intro pins s σ H vs us Q I r h
  obtain ⟨a, n, ns, rfl, hs, q⟩ := h
  obtain ⟨its, rv, ht, _⟩ := I.tuple hs
  rw [Vals.ref1 r]
  refine PySem.W.min_tuple_datum (I.ok.hd hc) (show s.heap.IsTuple a its.toArray from ht) (x := n) (xs := ns) (by simpa using holds_ints rv.ints) (by show X.A.units + 1 + 0 < cLine; omega) fun i v h' tk hv hh hk => ?_
  obtain ⟨t, rfl⟩ := holds_int hh
  exact ⟨.int _, H, I.kept hk, ⟨t, rfl⟩, q⟩
theorem cr_maxT (hc : X.calm = true) (hu : X.A.units + 64 < cLine) : CallR X (.builtin "max") (fun vs H Q => ∃ (a : Addr) (n : Int) (ns : List Int), vs = [V.ref a] ∧ SqT X.K H a ((n :: ns).map V.int) ∧ Q (.int (PySem.W.maxOf n ns)) H) := by
  intro pins s σ H vs us Q I r h
  obtain ⟨a, n, ns, rfl, hs, q⟩ := h
  obtain ⟨its, rv, ht, _⟩ := I.tuple hs
  rw [Vals.ref1 r]
  refine PySem.W.max_tuple_datum (I.ok.hd hc) (show s.heap.IsTuple a its.toArray from ht) (x := n) (xs := ns) (by simpa using holds_ints rv.ints) (by show X.A.units + 1 + 0 < cLine; omega) fun i v h' tk hv hh hk => ?_
  obtain ⟨t, rfl⟩ := holds_int hh
  exact ⟨.int _, H, I.kept hk, ⟨t, rfl⟩, q⟩
theorem minOf_eq (n : Int) (ns : List Int) : PySem.W.minOf n ns = MP.minL n ns := by
  unfold PySem.W.minOf MP.minL
  congr 1
  funext a y
  show (if decide (y < a) = true then y else a) = if y < a then y else a
  simp only [decide_eq_true_eq]
theorem maxOf_eq (n : Int) (ns : List Int) : PySem.W.maxOf n ns = MP.maxL n ns := by
  unfold PySem.W.maxOf MP.maxL
  congr 1
  funext a y
  show (if decide (a < y) = true then y else a) = if a < y then y else a
  simp only [decide_eq_true_eq]
theorem im_min : ImC c W MP.minO (fun vs H Q => rMin c.K vs H Q ∨ (∃ (a : Addr) (n : Int) (ns : List Int), vs = [V.ref a] ∧ SqT c.K H a ((n :: ns).map V.int) ∧ Q (.int (PySem.W.minOf n ns)) H)) := by
  intro σ H J S Q ds xs rs hv p
  match ds, p with
  | [], p => exact p.elim
  | _ :: _ :: _, p => exact p.elim
  | [d], p =>
    obtain ⟨v, rfl, h⟩ := one_of rfl hv
    obtain ⟨es, a, ys, rfl, hs, h2, p⟩ := items_of rs h p
    cases q : MP.intOf es with
    | none => simp only [q] at p; exact p.elim
    | some l =>
      cases l with
      | nil => simp only [q] at p; exact p.elim
      | cons n l =>
        simp only [q] at p
        have e := ints_of q h2
        subst e
        rcases hs with hs | hs
        · refine .inl ⟨a, n :: l, rfl, hs, Nat.succ_pos _, fun m h1 h2 => ?_⟩
          obtain ⟨g1, g2, g3⟩ := minL_le l n
          have em : m = MP.minL n l := by
            have z1 : m ≤ MP.minL n l := by
              rcases g3 with g3 | g3
              · rw [g3]; exact h2 n List.mem_cons_self
              · exact h2 _ (List.mem_cons_of_mem _ g3)
            have z2 : MP.minL n l ≤ m := by
              rcases List.mem_cons.mp h1 with e | e
              · rw [e]; exact g1
              · exact g2 m e
            omega
          exact post_pu rs p (by rw [em]; rfl)
        · exact .inr ⟨a, n, l, rfl, hs, post_pu rs p (by rw [minOf_eq]; rfl)⟩
theorem im_max : ImC c W MP.maxO (fun vs H Q => rMax c.K vs H Q ∨ (∃ (a : Addr) (n : Int) (ns : List Int), vs = [V.ref a] ∧ SqT c.K H a ((n :: ns).map V.int) ∧ Q (.int (PySem.W.maxOf n ns)) H)) := by
  intro σ H J S Q ds xs rs hv p
  match ds, p with
  | [], p => exact p.elim
  | _ :: _ :: _, p => exact p.elim
  | [d], p =>
    obtain ⟨v, rfl, h⟩ := one_of rfl hv
    obtain ⟨es, a, ys, rfl, hs, h2, p⟩ := items_of rs h p
    cases q : MP.intOf es with
    | none => simp only [q] at p; exact p.elim
    | some l =>
      cases l with
      | nil => simp only [q] at p; exact p.elim
      | cons n l =>
        simp only [q] at p
        have e := ints_of q h2
        subst e
        rcases hs with hs | hs
        · refine .inl ⟨a, n :: l, rfl, hs, Nat.succ_pos _, fun m h1 h2 => ?_⟩
          obtain ⟨g1, g2, g3⟩ := maxL_le l n
          have em : m = MP.maxL n l := by
            have z1 : MP.maxL n l ≤ m := by
              rcases g3 with g3 | g3
              · rw [g3]; exact h2 n List.mem_cons_self
              · exact h2 _ (List.mem_cons_of_mem _ g3)
            have z2 : m ≤ MP.maxL n l := by
              rcases List.mem_cons.mp h1 with e | e
              · rw [e]; exact g1
              · exact g2 m e
            omega
          exact post_pu rs p (by rw [em]; rfl)
        · exact .inr ⟨a, n, l, rfl, hs, post_pu rs p (by rw [maxOf_eq]; rfl)⟩
theorem e_min (hc : X.calm = true) (hu : X.A.units + 64 < cLine) (hk : X.K = c.K) (hg : Gl X "min") (hm : X.mg "min" = none) (ha : PE X a (tM c W ma)) (he : starEach [a] X.env = (false, eval a X.env) :: starEach [] X.env := by rfl) : PE X (.Call (.Name "min" p) [a] [] pos) (tM c W (MP.biE MP.minO (MP.consA ma MP.nilA))) :=
  e_bi (.or (by rw [← hk]; exact cr_min hc) (by rw [← hk]; exact cr_minT hc hu)) im_min hg hm PyProof.Rows.boot_min (a_cons ha a_nil he) (he := he)
theorem e_max (hc : X.calm = true) (hu : X.A.units + 64 < cLine) (hk : X.K = c.K) (hg : Gl X "max") (hm : X.mg "max" = none) (ha : PE X a (tM c W ma)) (he : starEach [a] X.env = (false, eval a X.env) :: starEach [] X.env := by rfl) : PE X (.Call (.Name "max" p) [a] [] pos) (tM c W (MP.biE MP.maxO (MP.consA ma MP.nilA))) :=
  e_bi (.or (by rw [← hk]; exact cr_max hc) (by rw [← hk]; exact cr_maxT hc hu)) im_max hg hm PyProof.Rows.boot_max (a_cons ha a_nil he) (he := he)
theorem bls_of : ∀ {ds : List D} {xs : List V} {l : List Bool}, MP.blsOf ds = some l → RVs c H J ds xs → xs = l.map V.bl
  | [], _, _, e, h => by cases h; cases e; rfl
  | d :: r, _, l, e, h => by
    obtain ⟨v, t, rfl, h1, h2⟩ := h
    cases d <;> try cases e
    rename_i i
    cases h1
    have e : (MP.blsOf r).map (i :: ·) = some l := e
    cases q : MP.blsOf r with
    | none => rw [q] at e; cases e
    | some l2 =>
      rw [q] at e
      cases e
      rw [bls_of q h2, List.map_cons]
/-- all, any want a list -/
theorem lst_only {α β : Type} {rel : Hp → Jm → α → β → Prop} {Q : β → Hp → Prop} {d : D} {v : V} {k : List D → MP.M α} (rs : RS c H J S) (hv : RV c H J d v) (p : Post c W σ rel H J Q (bd (MP.litO d) k S)) :
    ∃ ds a xs, v = .ref a ∧ SqL c.K H a xs ∧ RVs c H J ds xs ∧ Post c W σ rel H J Q (k ds S) := by
  cases d with
  | lst xs =>
    obtain ⟨a, xs, rfl, h1, h2⟩ := hv
    exact ⟨_, a, xs, rfl, h1.sq, h2, p⟩
  | ref n =>
    obtain ⟨h1, rfl⟩ := hv
    have p : Post c W σ rel H J Q ((bd (fun s => match s[n]? with | some ⟨_, .lst xs⟩ => .ok xs s | _ => .bad) k) S) := p
    unfold bd at p
    cases e : S[n]? with
    | none => simp only [e] at p; exact p.elim
    | some o =>
      obtain ⟨w, o⟩ := o
      cases o <;> simp only [e] at p <;> try exact p.elim
      obtain ⟨⟨xs, g1, g2⟩, _⟩ := rs.ob n _ e
      exact ⟨_, _, xs, rfl, .inl (.inl g1), g2, p⟩
  | _ => exact p.elim
theorem im_all : ImC c W MP.allO (rAll c.K) := by
  intro σ H J S Q ds xs rs hv p
  match ds, p with
  | [], p => exact p.elim
  | _ :: _ :: _, p => exact p.elim
  | [d], p =>
    obtain ⟨v, rfl, h⟩ := one_of rfl hv
    obtain ⟨es, a, ys, rfl, hs, h2, p⟩ := lst_only rs h p
    cases q : MP.blsOf es with
    | none => simp only [q] at p; exact p.elim
    | some l =>
      simp only [q] at p
      have e := bls_of q h2
      subst e
      exact ⟨a, l, rfl, hs, post_pu rs p rfl⟩
theorem e_all (hc : X.calm = true) (hk : X.K = c.K) (hg : Gl X "all") (hm : X.mg "all" = none) (ha : PE X a (tM c W ma)) (he : starEach [a] X.env = (false, eval a X.env) :: starEach [] X.env := by rfl) : PE X (.Call (.Name "all" p) [a] [] pos) (tM c W (MP.biE MP.allO (MP.consA ma MP.nilA))) :=
  e_bi (by rw [← hk]; exact cr_all hc) im_all hg hm (by decide +kernel) (a_cons ha a_nil he) (he := he)
theorem im_int : ImC c W MP.intO (fun xs H Q => (∃ i, xs = [.int i] ∧ Q (.int i) H) ∨ ∃ k, xs = [.bl k] ∧ Q (.int (if k then 1 else 0)) H) := by
  intro σ H J S Q ds xs rs hv p
  unfold MP.intO at p
  split at p
  · obtain ⟨v, rfl, h⟩ := one_of rfl hv
    cases h
    exact .inl ⟨_, rfl, post_pu rs p rfl⟩
  · obtain ⟨v, rfl, h⟩ := one_of rfl hv
    cases h
    exact .inr ⟨_, rfl, post_pu rs p rfl⟩
  · exact p.elim
theorem im_tuple : ImC c W MP.tupleO (fun xs H Q => ∃ p ys, xs = [.ref p] ∧ ((SqL c.K H p ys ∧ ∀ l, H l = none → Q (.ref l) (upd H l (.tup ys))) ∨ (SqT c.K H p ys ∧ Q (.ref p) H))) := by
  intro σ H J S Q ds xs rs hv p
  match ds, p with
  | [], p => exact p.elim
  | _ :: _ :: _, p => exact p.elim
  | [d], p =>
    obtain ⟨v, rfl, h⟩ := one_of rfl hv
    have key : Post c W σ (RV c) H J Q (bd (MP.litO d) (fun xs => pu (.tup xs)) S) → ∃ p ys, [v] = [.ref p] ∧ ((SqL c.K H p ys ∧ ∀ l, H l = none → Q (.ref l) (upd H l (.tup ys))) ∨ (SqT c.K H p ys ∧ Q (.ref p) H)) := fun p => by
      obtain ⟨es, a, ys, rfl, hs, h2, p⟩ := lst_only rs h p
      exact ⟨a, ys, rfl, .inl ⟨hs, fun l hl => p _ _ J (rs.newT hl) (.tup rs hl h2)⟩⟩
    cases d with
    | tup es =>
      obtain ⟨a, ys, rfl, h1, h2⟩ := h
      exact ⟨a, ys, rfl, .inr ⟨h1.sq, post_pu rs p ⟨a, ys, rfl, h1, h2⟩⟩⟩
    | _ => exact key p
theorem e_tuple (hk : X.K = c.K) (hg : Gl X "tuple") (hm : X.mg "tuple" = none) (ha : PE X a (tM c W ma)) (he : starEach [a] X.env = (false, eval a X.env) :: starEach [] X.env := by rfl) : PE X (.Call (.Name "tuple" p) [a] [] pos) (tM c W (MP.biE MP.tupleO (MP.consA ma MP.nilA))) :=
  e_ty (by rw [← hk]; exact call_tuple_of) im_tuple hg hm PyProof.Rows.boot_tuple (a_cons ha a_nil he) (he := he)
/-- list(x): a new list -/
theorem f_list (hk : X.K = c.K) (hg : Gl X "list") (hm : X.mg "list" = none) (ha : PE X a (tM c W ma)) (he : starEach [a] X.env = (false, eval a X.env) :: starEach [] X.env := by rfl) : PE X (.Call (.Name "list" p) [a] [] pos) (tF c W (MP.listF ma)) :=
  pe_imp (pe_callTy (by rw [← hk]; exact call_list_of : CallR X (.type "list") (fun xs H Q => ∃ p ys, xs = [.ref p] ∧ (SqL c.K H p ys ∨ SqT c.K H p ys) ∧ ∀ l, H l = none → Q (.ref l) (upd H l (.lst ys)))) hg hm PyProof.Rows.boot_list (pa_cons ha pa_nil he) (he := he)) fun σ H Q ⟨J, env, S, r, p⟩ =>
    tG.imp (bindF (rel' := RV c) r p) fun x H1 ⟨d, S1, J1, a1, r1, v1, p1⟩ => by
      have key : ∀ {es : List D} {ys : List V} {t : Addr}, x = .ref t → (SqL c.K H1 t ys ∨ SqT c.K H1 t ys) → RVs c H1 J1 es ys → PostF c W σ H1 J1 Q (pu es S1) → ∃ p ys, [x] = [.ref p] ∧ (SqL c.K H1 p ys ∨ SqT c.K H1 p ys) ∧ ∀ l, H1 l = none → Q (.ref l) (upd H1 l (.lst ys)) :=
        fun {es ys t} e hs h2 p1 => ⟨t, ys, by rw [e], hs, fun l hl => newPost r1.rs p1 h2 hl⟩
      cases d with
      | tup es =>
        obtain ⟨a, ys, rfl, h1, h2⟩ := v1
        exact key rfl (.inr h1.sq) h2 p1
      | lst es =>
        obtain ⟨a, ys, rfl, h1, h2⟩ := v1
        exact key rfl (.inl h1.sq) h2 p1
      | ref n =>
        obtain ⟨_, rfl⟩ := v1
        have p1 : PostF c W σ H1 J1 Q ((match S1[n]? with | some ⟨_, .lst xs⟩ => R.ok xs S1 | _ => R.bad)) := p1
        cases e : S1[n]? with
        | none => simp only [e] at p1; exact p1.elim
        | some o =>
          obtain ⟨w, o⟩ := o
          cases o <;> simp only [e] at p1 <;> try exact p1.elim
          obtain ⟨⟨xs, g1, g2⟩, _⟩ := r1.rs.ob n _ e
          exact key rfl (.inl (.inl (.inl g1))) g2 p1
      | _ => exact p1.elim
end
end MS
namespace MS
open PySem PySem.Spec PyProof.Rows L2
open MP (Sy D Cn Ob Sto R En bd pu no rz nx LIM)
section
variable {X : Cx} {c : Ct} {W : WX} {pos p : Pos} {a b d e : Expr} {es : List Expr} {ma mb md : MP.E} {ms : MP.Es} {σ : L2.St} {H : Hp} {J : Jm} {S : Sto} {x : Str}
def tyN : MP.Ty → String
  | .int => "int" | .bool => "bool" | .str => "str" | .dict => "dict" | .tuple => "tuple" | .list => "list" | .own _ => "object"
theorem ty_of {d : D} {v : V} (rs : RS c H J S) (hv : RV c H J d v) {t : MP.Ty} (ht : ∀ k, t ≠ .own k) {σ : L2.St} {Q : VK} (p : Post c W σ (RV c) H J Q (MP.isiO t [d] S)) : ∃ u b, TyX c.K H v u ∧ PySem.W.kitOne c.K u (.type (tyN t)) = some b ∧ Q (.bl b) H := by
  have tupC : ∀ {a : Addr} {xs : List V}, TupAt c H J a xs → TyX c.K H (.ref a) (.type "tuple") := fun {a xs} h => by
    rcases h with ⟨h, _⟩ | ⟨_, o, its, n, h1, h2, _⟩
    · exact .base (.tup h)
    · exact .kTuple h1 h2
  have lstC : ∀ {a : Addr} {xs : List V}, Rd H a (.lst xs) → TyX c.K H (.ref a) (.type "list") := fun {a xs} h => by
    rcases h with h | ⟨o, h⟩
    · exact .base (.lst h)
    · exact .base (.frz h)
  have fin : ∀ {b : Bool}, Post c W σ (RV c) H J Q (pu (.bl b) S) → Q (.bl b) H := fun {b} p => post_pu rs p rfl
  cases d with
  | non => cases hv; cases t <;> first | exact absurd rfl (ht _) | exact ⟨_, _, .base .non, kit_ty (by decide +kernel), fin p⟩
  | bl k => cases hv; cases t <;> first | exact absurd rfl (ht _) | exact ⟨_, _, .base (.bl k), kit_ty (by decide +kernel), fin p⟩
  | int k => cases hv; cases t <;> first | exact absurd rfl (ht _) | exact ⟨_, _, .base (.int k), kit_ty (by decide +kernel), fin p⟩
  | str k => cases hv; cases t <;> first | exact absurd rfl (ht _) | exact ⟨_, _, .base (.str _), kit_ty (by decide +kernel), fin p⟩
  | tup xs =>
    obtain ⟨a, ys, rfl, h1, h2⟩ := hv
    cases t <;> first | exact absurd rfl (ht _) | exact ⟨_, _, tupC h1, kit_ty (by decide +kernel), fin p⟩
  | lst xs =>
    obtain ⟨a, ys, rfl, h1, h2⟩ := hv
    have tc : TyX c.K H (.ref a) (.type "list") := by
      rcases h1 with ⟨h1, _⟩ | ⟨o, its, n, q1, q2, _⟩
      · exact lstC h1
      · exact .kList q1 q2
    cases t <;> first | exact absurd rfl (ht _) | exact ⟨_, _, tc, kit_ty (by decide +kernel), fin p⟩
  | dct _ _ => exact hv.elim
  | ref n =>
    obtain ⟨_, rfl⟩ := hv
    unfold MP.isiO at p
    cases q : S[n]? with
    | none => simp only [q] at p; exact p.elim
    | some o =>
      obtain ⟨w, o⟩ := o
      cases o with
      | lst xs =>
        simp only [q] at p
        obtain ⟨⟨ys, g1, _⟩, _⟩ := rs.ob n _ q
        cases t <;> first | exact absurd rfl (ht _) | exact ⟨_, _, lstC (.inl g1), kit_ty (by decide +kernel), fin p⟩
      | dct _ =>
        simp only [q] at p
        obtain ⟨⟨ys, g1, _⟩, _⟩ := rs.ob n _ q
        cases t <;> first | exact absurd rfl (ht _) | exact ⟨_, _, .base (.dT g1), kit_ty (by decide +kernel), fin p⟩
      | ins k ns vs => simp only [q] at p; exact p.elim
theorem e_isi {t : MP.Ty} {y : Str} {p2 : Pos} (ht : ∀ k, t ≠ .own k) (hk : X.K = c.K) (hg : Gl X "isinstance") (hm : X.mg "isinstance" = none) (hgy : Gl X y) (hmy : X.mg y = none) (hy : bootBuiltins y = some (.type (tyN t))) (ha : PE X a (tM c W ma)) (hny : y ≠ "__name__" := by decide)
    (hdy : (y == ("__debug__" : Str)) = false := by decide) (he : starEach [a, .Name y p2] X.env = (false, eval a X.env) :: starEach [.Name y p2] X.env := by rfl) :
    PE X (.Call (.Name "isinstance" p) [a, .Name y p2] [] pos) (tM c W (MP.biE (MP.isiO t) (MP.consA ma MP.nilA))) :=
  pe_imp (pe_callB (by rw [← hk]; exact call_isi : CallR X (.builtin "isinstance") (rIsi c.K)) hg hm PyProof.Rows.boot_isinstance (pa_cons ha (pa_cons (pe_bltn (v := .ty (tyN t)) hgy hmy hy rfl hny hdy) pa_nil rfl) he) (he := he)) fun σ H Q ⟨J, env, S, r, p⟩ => by
    have e : MP.biE (MP.isiO t) (MP.consA ma MP.nilA) env = bd (ma env) fun d => MP.isiO t [d] := by simp only [MP.biE, MP.consA, MP.nilA, MP.bd_bd, MP.bd_pu]
    rw [e] at p
    exact tG.imp (bind (rel' := RV c) r p) fun x H1 ⟨d, S1, J1, a1, r1, v1, p1⟩ => by
      obtain ⟨u, b, h1, h2, h3⟩ := ty_of r1.rs v1 ht p1
      exact ⟨x, .ty (tyN t), u, .type (tyN t), b, rfl, .ty _, h1, h2, h3⟩
/-- what a def promises: p parameters, the meaning f -/
def spI (c : Ct) (f : List D → MP.M D) : Sp := fun vs H Q E => ∃ J S ds, RS c H J S ∧ RVs c H J ds vs ∧ Post c (fun k d _ H => E k d H) [] (RV c) H J Q (f ds S)
theorem Post.we {Q : VK} {r : R D} (h : Post c W σ (RV c) H J Q r) : Post c (fun k d _ H => W k d σ H) [] (RV c) H J Q r := by
  cases r with
  | ok d S' => exact h
  | exc k ns vs S' => exact h
  | bad => exact h
theorem e_ca {k : Nat} {F : Nat → List D → MP.M D} {n : Nat} {f : Addr} {fd : FuncData} {ps : List Str} (G : FnOk X.prog X.w X.K X.mg X.base (L2.CX X.prog X.w) k f fd ps (spI c (F n))) (hr : Room k X.A) (hg : Gl X x) (hm : X.mg x = some (.ref f)) (hkp : PySem.W.keepIn X.K (.ref f) = true) (hb : Binds X.K fd ps [])
    (tk : Takes X W) (ha : PA X (e :: es) (tA c W ms)) (hdb : (x == ("__debug__" : Str)) = false := by decide) (he : starEach (e :: es) X.env = (false, eval e X.env) :: starEach es X.env := by rfl) (hpl : (backTo pos (starEach es X.env)).any (·.1) = false := by rfl) :
    PE X (.Call (.Name x p) (e :: es) [] pos) (tM c W (MP.caE F n ms)) :=
  pe_imp (pe_callSD G hr hg hm hkp hb .nil (fun σ => passAt tk σ) ha hdb he hpl) fun σ H Q ⟨J, env, S, r, p⟩ => tG.imp (bind (rel' := RVs c) r p) fun xs H1 ⟨ds, S1, J1, a1, r1, v1, p1⟩ => by
    show spI c (F n) (xs ++ []) H1 Q (WE W σ)
    rw [List.append_nil]
    exact ⟨J1, S1, ds, r1.rs, v1, p1.we⟩
end
end MS
namespace PySem
open Sem (wp)
open AutoSeq1 (wpAny_loadPart')
theorem meets_enumerate_newT (l : Addr) (items : Array Value) (n : Nat) (dct : Option Addr) (sl : Array (Option Value)) :
    Meets (Builtin.«enumerate.__new__» ⟨[.type "enumerate", .ref l], []⟩) (fun _ R s => s.heap.get? l = some { cls := .type "tuple", dict := dct, data := .seq items n, slots := sl } ∧
      R (.ok (.ret (.ref (s.heap.push { cls := .type "tuple_iterator", data := .fields #[.ref l, .int 0 0] }).objs.size)))
        { s with heap := (s.heap.push { cls := .type "tuple_iterator", data := .fields #[.ref l, .int 0 0] }).push { cls := .type "enumerate", data := .fields #[.none, .bool false, .ref s.heap.objs.size, rawInt 0, .none, .none] } }) :=
  .of_wp fun prog w A R s h => by
    obtain ⟨hp, g, d, tk, os⟩ := s
    obtain ⟨hl, h⟩ := h
    have hsub := sub_enumerate
    have hL : Heap.IsTuple (Shared.heap ⟨hp, g, d, tk, os⟩) l items := ⟨_, hl, rfl, n, rfl⟩
    wp_walk using wpAny_loadPart' hl
    refine wpAny_stack_any fun st => wpAny_pure ?_
    split
    · rename_i c _ _ _ _ _
      cases (c == Value.type "enumerate")
      · wp_walk using wpAny_loadPart' hl, wpAny_pyIter_tuple hL
        exact ⟨_, rfl, h⟩
      · wp_walk using wpAny_loadPart' hl, wpAny_pyIter_tuple hL
        exact ⟨_, rfl, h⟩
    · wp_walk using wpAny_loadPart' hl, wpAny_pyIter_tuple hL
      exact ⟨_, rfl, h⟩
theorem call_enumerate_tuple {prog : Program} {w : World} {A : Around} {E : Value → Shared → Prop} {s : Shared} {l : Addr} {items : Array Value} {Q : Value → Shared → Prop} (hL : s.heap.IsTuple l items)
    (h : ∀ h', IsEnum h' (s.heap.objs.size + 1) s.heap.objs.size 0 .none → h'.IsTupleIter s.heap.objs.size l 0 → h'.objs.size = s.heap.objs.size + 2 →
      (∀ b o, s.heap.get? b = some o → h'.get? b = some o) → Q (.ref (s.heap.objs.size + 1)) { s with heap := h' }) :
    wpAny (model prog w) A (call (.type "enumerate") [.ref l]) Q E s := by
  obtain ⟨⟨c, dct, dt, sl⟩, hl, hc, n, hd⟩ := hL
  replace hc : c = .type "tuple" := hc
  replace hd : dt = .seq items n := hd
  subst hc hd
  refine callType_new F.called_enumerate (by decide) (F.typeCall_enumerate_1 _) (F.newCall_enumerate_1 _) (fun obj => F.args_object_init_2 obj _) F.entry_enumerate_new
    (meets_enumerate_newT l items n dct sl) ⟨hl, ?_⟩
  have hz : (s.heap.push { cls := .type "tuple_iterator", data := .fields #[.ref l, .int 0 0] }).objs.size = s.heap.objs.size + 1 := Heap.size_push ..
  show _ ∧ _
  rw [hz]
  have he : IsEnum ((s.heap.push { cls := .type "tuple_iterator", data := .fields #[.ref l, .int 0 0] }).push
      { cls := .type "enumerate", data := .fields #[.none, .bool false, .ref s.heap.objs.size, rawInt 0, .none, .none] }) (s.heap.objs.size + 1) s.heap.objs.size 0 .none := by
    have := Heap.get?_push_size (s.heap.push { cls := .type "tuple_iterator", data := .fields #[.ref l, .int 0 0] })
      (o := { cls := .type "enumerate", data := .fields #[.none, .bool false, .ref s.heap.objs.size, rawInt 0, .none, .none] }) rfl
    rw [hz] at this; exact this
  exact ⟨⟨_, he, rfl⟩, h _ he ⟨_, Heap.get?_push_of_some _ (Heap.get?_push_size _ rfl), rfl, rfl⟩ (by rw [Heap.size_push, hz]) fun b o x => Heap.get?_push_of_some _ (Heap.get?_push_of_some _ x)⟩
end PySem
namespace MS
open PySem PySem.Spec PyProof.Rows L2
open MP (Sy D Cn Ob Sto R En bd pu no rz nx LIM)
/-- the tuple at a as it stands at each turn, each item in a new pair -/
def IteT (K : PySem.W.Frag) (a : Addr) : It :=
  ⟨fun i H => ∃ (xs : List V) (x : V), SqT K H a xs ∧ xs[i]? = some x, fun i H v H' => ∃ T x, v = .ref T ∧ H T = none ∧ H' = upd H T (.tup [.int (i : Nat), x]) ∧ ∀ xs, SqT K H a xs → xs[i]? = some x, fun i H => ∃ xs : List V, SqT K H a xs ∧ xs.length ≤ i⟩
theorem turn_enumT {P : Program} {w : World} {K : PySem.W.Frag} {elts : List Expr} {kk : Nat} {tpos : Pos} (a e it : Addr) :
    Turn P w K (.Tuple elts kk tpos) (IteT K a) [e, it] e (fun i h => (∃ old, IsEnum h e it ((i : Nat) : Int) old) ∧ h.IsTupleIter it a i ∧ e ≠ it) where
  mem := by simp
  obj := fun i h st b hb => by
    obtain ⟨⟨old, he⟩, ⟨o, ho, hc, hd⟩, _⟩ := st
    have e' : b = e ∨ b = it := by simpa using hb
    rcases e' with z | z
    · rw [z]; exact ⟨_, he, fun v q => nomatch q⟩
    · rw [z]; exact ⟨o, ho, fun v q => by rw [hd] at q; cases q⟩
  keep := fun i h h' st k => let ⟨⟨old, he⟩, hi, hne⟩ := st; ⟨⟨old, k e (by simp) _ he⟩, hi.at fun o q => k it (by simp) o q, hne⟩
  item := by
    intro X hP hw hK hc i pins s σ H E I hf st hg
    subst hP hw hK
    obtain ⟨⟨old, he⟩, hit, hne⟩ := st
    obtain ⟨xs, x, hq, hx⟩ := hg
    obtain ⟨its, rv, p, hz⟩ := I.tuple hq
    have p' : s.heap.IsTuple a its.toArray := p
    obtain ⟨u, hu, ru⟩ := rv.get hx
    have hel : e < s.heap.objs.size := Heap.lt_size he
    have hil : it < s.heap.objs.size := by obtain ⟨_, q, _⟩ := hit; exact Heap.lt_size q
    have ait : a ≠ it := fun z => by
      obtain ⟨o, h1, h2, _⟩ := id p'
      obtain ⟨o2, g1, g2, g3⟩ := id hit
      rw [z, g1] at h1
      cases h1
      rw [h2] at g2
      exact absurd g2 (by decide)
    have ae : e ∉ [it, a] := fun z => by
      have z : e = it ∨ e = a := by simpa using z
      rcases z with z | z
      · exact hne z
      · obtain ⟨o, h1, h2, _⟩ := id p'
        rw [← z, he] at h1
        cases h1
        exact absurd (show Value.type "enumerate" = Value.type "tuple" from h2) (by decide)
    have hlt : i < its.toArray.size := by
      rw [List.size_toArray]
      exact (List.getElem?_eq_some_iff.mp hu).1
    refine wpAny_pyNext_enum_itemD (Draws.tuple (A := X.A.in1) (I.ok.hd hc) it a ait its.toArray) he ⟨hit, p'⟩ hlt hne ae fun y h' tk hy ho hst' hT hsz hk => ?_
    have ey : y = u := by
      have hy : its.toArray[i]? = some y := hy
      rw [show its.toArray[i]? = its[i]? by simp, hu] at hy
      exact (Option.some.inj hy).symm
    subst ey
    refine ⟨_, rfl, wpAny_letOwnedTupleGo_enum (s := { s with heap := h', toks := tk + 1 }) ho fun h'' he' sb => ?_⟩
    have hT2 : h''.get? s.heap.objs.size = some { cls := .type "tuple", data := .seq #[.int i tk, y] } := (sb.2 _ (Nat.ne_of_gt hel)).trans hT
    have new : ObjOk X.prog X.w (upd H s.heap.objs.size (.tup [.int (i : Nat), x])) h'' s.heap.objs.size (.tup [.int (i : Nat), x]) :=
      ⟨by show 2 ≤ sizeLine; decide, [.int i tk, y], .cons ⟨_, rfl⟩ (.cons ru .nil), ⟨_, hT2, rfl, _, rfl⟩⟩
    have I1 : Inv X pins σ (upd H s.heap.objs.size (.tup [.int (i : Nat), x])) { s with heap := h'', toks := tk + 1 } :=
      I.turnedNew (ch := [e, it]) (fun b ob hb q => (sb.2 b (fun z => hb (by simp [z]))).trans (hk b ob (fun z => hb (by simp [z])) (fun z => hb (by simp [z])) q)) hf (Nat.le_refl _) new
    refine ⟨.ref s.heap.objs.size, _, I1, rfl, ⟨_, x, rfl, I.hok.fresh (Nat.le_refl _), rfl, fun ys hy => by rw [I.tuple_inj hy hq]; exact hx⟩, ⟨⟨y, ?_⟩, hst'.1.at fun o q => (sb.2 it (Ne.symm hne)).trans q, hne⟩, fun b hb => ?_⟩
    · have e1 : ((i + 1 : Nat) : Int) = (i : Int) + 1 := by omega
      rw [e1]; exact he'
    · have hb' : b < s.heap.objs.size := by
        have e' : b = e ∨ b = it := by simpa using hb
        rcases e' with z | z
        · rw [z]; exact hel
        · rw [z]; exact hil
      rw [upd_ne (Nat.ne_of_lt hb')]
      exact (hf b hb).1
  done := by
    intro X hP hw hK hc i pins s σ H E I hf st hg
    subst hP hw hK
    obtain ⟨⟨old, he⟩, hit, hne⟩ := st
    obtain ⟨xs, hq, hx⟩ := hg
    obtain ⟨its, rv, p, hz⟩ := I.tuple hq
    have p' : s.heap.IsTuple a its.toArray := p
    obtain ⟨f0, f1, f2, f3, f4, f5⟩ := hf it (by simp)
    have hl := rv.length
    have hT : s.TypeIs (.ref e) "enumerate" := ⟨_, he, rfl⟩
    unfold pyNext
    refine wpAny_bind (wpAny_attempt (wpAny_callSpecial?_slot (name := Str.ofString "__next__") hT F.slot_enumerate_next
      (wpAny_call_entry F.slot_enumerate_next hT F.entry_enumerate_next ?_ (F.args_enumerate_next_1 _))))
    show wpAny _ _ (field (.ref e) 2 >>= _) _ _ _
    refine wpAny_bind (wpAny_field he rfl (x := .ref it) rfl ?_)
    refine wpAny_bind (wpAny_nextOf_tuple_end (A := X.A.in1) (I.ok.hd hc) hit p' (by simp; omega) fun h' y he' hx' => ?_)
    obtain ⟨o, ho, hcc⟩ := hx'
    refine wpAny_bind (wpAny_isInstance (T := "StopIteration") (b := true) ⟨o, ho, hcc⟩ isSubtype_stop ?_)
    exact wpAny_pure ⟨rfl, I.turned (t' := s.toks) (fun b o hb q => he' b o hb q) f0 f1 f3 f4 f5⟩
  self := fun A i s Q E st h => let ⟨⟨_, he⟩, _⟩ := st; wpAny_pyIter_enum he h
section
variable {X : Cx} {c : Ct} {W : WX} {pos p tpos : Pos} {a b d e tg : Expr} {es elts : List Expr} {kk : Nat} {ma mb md : MP.E} {ms : MP.Es} {σ : L2.St} {H : Hp} {J : Jm} {S : Sto} {x : Str}
/-- an iterator that gives the items ds while the store is as ok says -/
def SrcAt (c : Ct) (H : Hp) (J : Jm) (q : List D × (Sto → Bool)) (It : L2.It) : Prop := ∀ H1 J1 S1, AftW c H J H1 J1 S1 → q.2 S1 = true →
  (∀ i, i < q.1.length → It.go i H1 ∧ ∀ x H2, It.yld i H1 x H2 → ∃ d, q.1[i]? = some d ∧ Aft c H1 J1 H2 J1 S1 ∧ RV c H2 J1 d x ∧ ∀ b o, H1 b = some o → H2 b = some o) ∧ It.stop q.1.length H1
abbrev tI (c : Ct) (W : WX) (m : MP.Src) : TI := tG c W (SrcAt c) m
theorem src_list {H : Hp} {J : Jm} {a : Addr} {xs : List V} {ds : List D} {f : Sto → Bool} (h : LstAt c H J a xs) (hv : RVs c H J ds xs) : SrcAt c H J (ds, f) (Itl c.K a) := fun H1 J1 S1 af _ => by
  have h1 : SqL c.K H1 a xs := (h.keep af.keep).sq
  have hv1 := hv.aftw af
  have hl := hv1.length
  refine ⟨fun i hi => ?_, ⟨xs, h1, by rw [hl]; exact Nat.le_refl _⟩⟩
  have hi : i < ds.length := hi
  obtain ⟨v, e, hd⟩ := hv1.get (i := i) (d := ds[i]) (by simp [hi])
  refine ⟨⟨xs, v, h1, e⟩, fun x H2 ⟨e2, y⟩ => ?_⟩
  subst e2
  have := y xs h1
  rw [e] at this
  cases this
  exact ⟨ds[i], by simp [hi], .refl af.rs, hd, fun _ _ e => e⟩
theorem src_tup {H : Hp} {J : Jm} {a : Addr} {xs : List V} {ds : List D} {f : Sto → Bool} (h : TupAt c H J a xs) (hv : RVs c H J ds xs) : SrcAt c H J (ds, f) (Itt c.K a) := fun H1 J1 S1 af _ => by
  have h1 : SqT c.K H1 a xs := (h.keep af.keep).sq
  have hv1 := hv.aftw af
  have hl := hv1.length
  refine ⟨fun i hi => ?_, ⟨xs, h1, by rw [hl]; exact Nat.le_refl _⟩⟩
  have hi : i < ds.length := hi
  obtain ⟨v, e, hd⟩ := hv1.get (i := i) (d := ds[i]) (by simp [hi])
  refine ⟨⟨xs, v, h1, e⟩, fun x H2 ⟨e2, y⟩ => ?_⟩
  subst e2
  have := y xs h1
  rw [e] at this
  cases this
  exact ⟨ds[i], by simp [hi], .refl af.rs, hd, fun _ _ e => e⟩
/-- a list of the store, watched -/
theorem ref_at {H1 : Hp} {J1 : Jm} {S S1 : Sto} {n : Nat} {w : Bool} {ds : List D} (rs : RS c H J S) (hn : n < J.n) (e : S[n]? = some ⟨w, .lst ds⟩) (af : AftW c H J H1 J1 S1) (hw : MP.watch (.ref n) S S1 = true) : ∃ xs, H1 (J.j n) = some (.lst xs) ∧ RVs c H1 J1 ds xs := by
  have hw : S[n]? = S1[n]? := of_decide_eq_true (p := S[n]? = S1[n]?) hw
  rw [e] at hw
  obtain ⟨⟨xs, g1, g2⟩, _⟩ := af.rs.ob n _ hw.symm
  rw [af.ext.2 n hn] at g1
  exact ⟨xs, g1, g2⟩
theorem src_ref {n : Nat} {w : Bool} {ds : List D} (rs : RS c H J S) (hn : n < J.n) (e : S[n]? = some ⟨w, .lst ds⟩) : SrcAt c H J (ds, MP.watch (.ref n) S) (Itl c.K (J.j n)) := fun H1 J1 S1 af hw => by
  obtain ⟨xs, h1, hv1⟩ := ref_at rs hn e af hw
  have h1 : SqL c.K H1 (J.j n) xs := .inl (.inl h1)
  have hl := hv1.length
  refine ⟨fun i hi => ?_, ⟨xs, h1, by rw [hl]; exact Nat.le_refl _⟩⟩
  have hi : i < ds.length := hi
  obtain ⟨v, e, hd⟩ := hv1.get (i := i) (d := ds[i]) (by simp [hi])
  refine ⟨⟨xs, v, h1, e⟩, fun x H2 ⟨e2, y⟩ => ?_⟩
  subst e2
  have := y xs h1
  rw [e] at this
  cases this
  exact ⟨ds[i], by simp [hi], .refl af.rs, hd, fun _ _ e => e⟩
/-- for x in e, e a list or a tuple -/
theorem s_seq (ha : PE X a (tM c W ma)) (hk : X.K = c.K) : PI X tg a (tI c W (MP.seqS ma)) := by
  refine ⟨fun pins s σ H R I ⟨J, env, S, r, p⟩ => ?_⟩
  refine thn (ha.run pins s σ H _ I (bind (rel' := RV c) r p)) fun v s1 ⟨x, H1, I1, rx, d, S1, J1, a1, r1, v1, p1⟩ => ?_
  have lst : ∀ {t : Addr} {xs : List V}, x = .ref t → SqL c.K H1 t xs → R (Itl c.K t) H1 → wpAny (model X.prog X.w) X.A (pyIter v) (PIE X pins σ tg R) X.xe s1 := fun {t xs} e hq q => by
    subst e
    cases rx
    rw [← hk] at hq q
    obtain ⟨its, rv, p, hz⟩ := I1.list hq
    refine wpAny_pyIter_list p.isList ?_
    refine ⟨s1.heap.objs.size, [s1.heap.objs.size], _, _, H1, rfl, I1.kept (t' := s1.toks) fun b o e => Heap.get?_push_of_some _ e, turn_list t _, ⟨_, Heap.get?_push_size _ rfl, rfl, rfl⟩, fun b hb => ?_, q⟩
    have e : b = s1.heap.objs.size := by simpa using hb
    subst e
    exact I1.fpOk (Nat.le_refl _) (I1.hok.fresh (Nat.le_refl _))
  have fin : ∀ {q : List D × (Sto → Bool)} {It : L2.It}, Post c W σ (SrcAt c) H1 J1 R (MP.R.ok q S1) → SrcAt c H1 J1 q It → R It H1 := fun {q It} p h => p It H1 J1 (.refl r1.rs) h
  cases d with
  | tup ds =>
    obtain ⟨t, xs, rfl, h1, h2⟩ := v1
    cases rx
    have hq := h1.sq
    rw [← hk] at hq
    obtain ⟨its, rv, pt, hz⟩ := I1.tuple hq
    refine wpAny_pyIter_tuple (show s1.heap.IsTuple t its.toArray from pt) ?_
    refine ⟨s1.heap.objs.size, [s1.heap.objs.size], _, _, H1, rfl, I1.kept (t' := s1.toks) fun b o e => Heap.get?_push_of_some _ e, turn_tuple t _, ⟨_, Heap.get?_push_size _ rfl, rfl, rfl⟩, fun b hb => ?_, by rw [hk]; exact fin p1 (src_tup h1 h2)⟩
    have e : b = s1.heap.objs.size := by simpa using hb
    subst e
    exact I1.fpOk (Nat.le_refl _) (I1.hok.fresh (Nat.le_refl _))
  | lst ds =>
    obtain ⟨t, xs, e, h1, h2⟩ := v1
    exact lst e h1.sq (fin p1 (src_list h1 h2))
  | ref n =>
    obtain ⟨hn, e⟩ := v1
    have p1 : Post c W σ (SrcAt c) H1 J1 R (bd (fun s => match s[n]? with | some ⟨_, .lst xs⟩ => .ok xs s | _ => .bad) (fun xs s => .ok (xs, MP.watch (.ref n) s) s) S1) := p1
    unfold bd at p1
    cases q : S1[n]? with
    | none => simp only [q] at p1; exact p1.elim
    | some o =>
      obtain ⟨w, o⟩ := o
      cases o <;> simp only [q] at p1 <;> try exact p1.elim
      obtain ⟨⟨xs, g1, g2⟩, _⟩ := r1.rs.ob n _ q
      exact lst e (.inl (.inl g1)) (fin p1 (src_ref r1.rs hn q))
  | _ => exact p1.elim
theorem src_ints {lo : Int} {n : Nat} {f : Sto → Bool} : SrcAt c H J (MP.iRow lo n, f) (Itr lo n) := fun H1 J1 S1 af _ => by
  have hl : (MP.iRow lo n).length = n := by simp [MP.iRow]
  refine ⟨fun i hi => ?_, by show n ≤ (MP.iRow lo n).length; rw [hl]; exact Nat.le_refl _⟩
  have hi : i < n := by rw [← hl]; exact hi
  refine ⟨hi, fun x H2 ⟨e2, y⟩ => ?_⟩
  subst e2 y
  exact ⟨.int (lo + (i : Nat)), by simp [MP.iRow, hi], .refl af.rs, rfl, fun _ _ e => e⟩
theorem rng_of {R : L2.It → Hp → Prop} {lo hi : Int} (rs : RS c H J S) (p : Post c W σ (SrcAt c) H J R (MP.rngO lo hi S)) : (-(2 ^ 62) ≤ lo ∧ lo < 2 ^ 62 ∧ -(2 ^ 62) ≤ hi ∧ hi < 2 ^ 62) ∧ R (Itr lo (hi - lo).toNat) H := by
  unfold MP.rngO at p
  obtain ⟨h, p⟩ := post_if p
  refine ⟨h, p _ H J (.refl rs) src_ints⟩
theorem s_rng1 (hg : Gl X "range") (hm : X.mg "range" = none) (ha : PE X a (tM c W ma)) (hs : starEach [a] X.env = [(false, eval a X.env)] := by rfl) : PI X tg (.Call (.Name "range" p) [a] [] pos) (tI c W (MP.rng1 ma)) := by
  refine ⟨fun pins s σ H R I ⟨J, env, S, r, q⟩ => (pi_range1 hg hm (pa_cons ha pa_nil hs) hs).run pins s σ H R I ?_⟩
  exact tG.imp (bind (rel' := RV c) r q) fun x H1 ⟨d, S1, J1, a1, r1, v1, p1⟩ => by
    cases d <;> try exact p1.elim
    cases v1
    obtain ⟨⟨_, _, h3, h4⟩, q⟩ := rng_of r1.rs p1
    exact ⟨_, rfl, h3, h4, by simpa using q⟩
end
end MS
namespace MS
open PySem PySem.Spec PyProof.Rows L2
open MP (Sy D Cn Ob Sto R En bd pu no rz nx LIM)
theorem wipe_put {σ : L2.St} {v : Nat} {x : Option V} : ∀ {r : List Nat}, (L2.wipe (σ.set v x) r).set v none = (L2.wipe σ r).set v none
  | [] => by simp [L2.wipe]
  | u :: t => by
    unfold L2.wipe
    by_cases e : u = v
    · subst e
      rw [List.set_set, List.set_set, wipe_put]
    · rw [List.set_comm _ _ e, wipe_put, List.set_comm _ _ e]
theorem wipe_in {σ : L2.St} {i : Nat} {x : Option V} : ∀ {vs : List Nat}, i ∈ vs → L2.wipe (σ.set i x) vs = L2.wipe σ vs
  | [], h => by simp at h
  | v :: r, h => by
    unfold L2.wipe
    by_cases e : i = v
    · subst e; exact wipe_put
    · rw [wipe_in (by simpa [e] using h)]
theorem wipe_twice {σ : L2.St} : ∀ {r : List Nat} {v : Nat}, L2.wipe (σ.set v none) r = (L2.wipe σ r).set v none
  | [], v => rfl
  | u :: t, v => by
    unfold L2.wipe
    rw [wipe_twice]
    by_cases e : u = v
    · subst e; rfl
    · rw [List.set_comm _ _ (Ne.symm e)]
theorem wipe_wipe {σ : L2.St} : ∀ {vs : List Nat}, L2.wipe (L2.wipe σ vs) vs = L2.wipe σ vs
  | [] => rfl
  | v :: r => by
    show (L2.wipe ((L2.wipe σ r).set v none) r).set v none = (L2.wipe σ r).set v none
    rw [wipe_twice, wipe_wipe, List.set_set]
section
variable {X : Cx} {c : Ct} {W : WX} {pos p tpos : Pos} {a b e tg : Expr} {es elts : List Expr} {σ : L2.St} {H H1 H' : Hp} {J J1 J' : Jm} {S S1 S' : Sto} {env : En}
theorem RSt.wipe (r : RSt c J env S σ H) : ∀ vs : List Nat, RSt c J (MP.wipeE env vs) S (L2.wipe σ vs) H
  | [] => r
  | v :: vs => (RSt.wipe r vs).unset v none
def gT (c : Ct) (tg : MP.Tg) : TG := fun v σ H Q => ∃ J env S d env', RSt c J env S σ H ∧ RV c H J d v ∧ tg.put d env = some env' ∧ ∀ σ', RSt c J env' S σ' H → (∀ vs, (∀ i ∈ (match tg with | .nm i => [i] | .tp ts => ts | .nt i js => i :: js), i ∈ vs) → L2.wipe σ' vs = L2.wipe σ vs) → Q σ' H
def gTs (c : Ct) (ts : List Nat) : TGs := fun xs σ H Q => ∃ J env S ds, RSt c J env S σ H ∧ RVs c H J ds xs ∧ ds.length = ts.length ∧ ∀ σ', RSt c J (MP.setAll ts ds env) S σ' H → (∀ vs, (∀ i ∈ ts, i ∈ vs) → L2.wipe σ' vs = L2.wipe σ vs) → Q σ' H
theorem pg_imp {X : Cx} {e : Expr} {t t' : TG} (h : PG X e t) (k : ∀ v σ H Q, t' v σ H Q → t v σ H Q) : PG X e t' := ⟨fun pins s σ H v u Q I r w => h.run pins s σ H v u Q I r (k v σ H Q w)⟩
theorem g_nm {i : Nat} {x : Str} (hN : X.N.Nodup) (hi : X.N[i]? = some x := by rfl) (hx : Loc X.env.scope x := by first | exact .inl rfl | exact .inr rfl) (hf : X.fn x = true ∨ X.env.scope.names.lookup x = some .local := by first | exact .inl rfl | exact .inr rfl | assumption) : PG X (.Name x pos) (gT c (.nm i)) :=
  pg_imp (pg_name hN hi hx hf) fun v σ H Q ⟨J, env, S, d, env', r, hv, e, k⟩ => by
    cases e
    exact k _ (r.set hv) fun vs h => wipe_in (h i (by simp))
theorem gs_nil : PGs X [] (gTs c []) := ⟨fun pins s σ H xs us Q I r ⟨J, env, S, ds, r1, hv, hl, k⟩ => by
  have : ds = [] := by simpa using hl
  subst this
  exact pgs_nil.run pins s σ H xs us Q I r ⟨hv, k σ r1 fun _ _ => rfl⟩⟩
theorem gs_cons {i : Nat} {x : Str} {ts : List Nat} (hN : X.N.Nodup) (h2 : PGs X es (gTs c ts)) (hi : X.N[i]? = some x := by rfl) (hx : Loc X.env.scope x := by first | exact .inl rfl | exact .inr rfl) (hf : X.fn x = true ∨ X.env.scope.names.lookup x = some .local := by first | exact .inl rfl | exact .inr rfl | assumption)
    (hs : (assignEach (.Name x pos :: es) X.env).map (·.2) = assign (.Name x pos) X.env :: (assignEach es X.env).map (·.2) := by rfl) : PGs X (.Name x pos :: es) (gTs c (i :: ts)) := ⟨fun pins s σ H xs us Q I r ⟨J, env, S, ds, r1, hv, hl, k⟩ => by
  cases ds with
  | nil => simp at hl
  | cons d ds =>
    obtain ⟨v, t, rfl, h1, h3⟩ := hv
    refine (pgs_cons (pg_name (pos := pos) hN hi hx hf) h2 hs).run pins s σ H _ us Q I r ⟨v, t, rfl, ?_⟩
    refine ⟨J, env.set i (.va d), S, ds, r1.set h1, h3, by simpa using hl, fun σ' r2 hw => k σ' r2 fun vs h => ?_⟩
    rw [hw vs fun j hj => h j (List.mem_cons_of_mem _ hj), wipe_in (h i List.mem_cons_self)]⟩
theorem g_tp {k : Nat} {ts : List Nat} (hc : X.calm = true) (hk : X.K = c.K) (h : PGs X es (gTs c ts)) (hn : (assignEach es X.env).length = ts.length := by rfl) (hst : (assignEach es X.env).findIdx? (·.1) = none := by rfl) : PG X (.Tuple es k pos) (gT c (.tp ts)) :=
  pg_imp (pg_tup hc h hn hst) fun v σ H Q ⟨J, env, S, d, env', r, hv, e, k⟩ => by
    cases d with
    | tup ds =>
      obtain ⟨a, xs, rfl, h1, h2⟩ := hv
      have e : (if ds.length = ts.length then some (MP.setAll ts ds env) else none) = some env' := e
      split at e
      · rename_i hl
        cases e
        exact ⟨a, xs, rfl, by rw [hk]; exact h1.sq, by rw [← h2.length, hl], J, env, S, ds, r, h2, hl, k⟩
      · cases e
    | _ => exact absurd (show (none : Option En) = some env' from e) (fun z => nomatch z)
abbrev W0 : WX := fun _ _ _ _ => False
theorem takes0 (X : Cx) : Takes X W0 := fun u s' ⟨a, B, sI, pins, σ, H, cls, d, e, I, nb, up, sky, na, os, ag, w⟩ => w.elim
/-- a step whose raising is the end: r the answer of all -/
theorem bindN {α γ δ : Type} {rel' : Hp → Jm → γ → δ → Prop} {r0 : R α} {m : En → MP.M γ} {k : γ → MP.M α} (r : RSt c J env S σ H) (nb : r0 ≠ .bad) (h : bd (nx (m env)) k S = r0) :
    tG c W0 rel' m σ H fun (v : δ) H1 => ∃ d S1 J1, Aft c H J H1 J1 S1 ∧ RSt c J1 env S1 σ H1 ∧ rel' H1 J1 d v ∧ k d S1 = r0 := by
  refine ⟨J, env, S, r, ?_⟩
  unfold bd nx at h
  cases e : m env S with
  | ok d S' =>
    rw [e] at h
    exact fun v H' J' a q => ⟨d, S', J', a, r.aft a, q, h⟩
  | exc k ns vs S' => rw [e] at h; exact absurd h.symm nb
  | bad => rw [e] at h; exact absurd h.symm nb
/-- the list that is built: held, nothing knows it -/
def Jm.hold (J : Jm) (p : Addr) : Jm := ⟨J.j, fun b => J.m b ∨ b = p, J.n, fun b => J.h b ∨ b = p⟩
def Jm.free (J : Jm) (p : Addr) : Jm := ⟨J.j, J.m, J.n, fun b => J.h b ∧ b ≠ p⟩
theorem Aft.hold {p : Addr} {xs : List V} (r : RS c H J S) (hp : H p = none) : Aft c H J (upd H p (.lst xs)) (J.hold p) S := by
  have np : ∀ b, H b ≠ none → b ≠ p := fun b h e => h (by rw [e]; exact hp)
  have k : Keep H J (upd H p (.lst xs)) (J.hold p) := fun b u e n => ⟨by rw [upd_ne (ne_of_none e hp)]; exact e, fun z => by
    rcases z with z | z
    · exact n z
    · exact ne_of_none e hp z⟩
  have ex : Ext J (J.hold p) := ⟨Nat.le_refl _, fun _ _ => rfl⟩
  refine ⟨⟨r.n, r.inj, fun i u g => ⟨RO.mono k ex (upd_ne (np _ (r.ob i u g).1.there)) (r.ob i u g).1, fun z => .inl ((r.ob i u g).2 z)⟩, fun b hb => ?_, fun b hb => ?_, tb_new hp r.tb, r.tt.upd plain_lst fun b q => or_ne q⟩, ex, k, fun b hb => ⟨upd_ne (np b (r.mt b (r.hd b hb).1.1)), .inl hb⟩⟩
  · rcases hb with hb | hb
    · rw [upd_ne (np b (r.mt b hb))]; exact r.mt b hb
    · rw [hb, upd_same]; exact fun z => nomatch z
  · rcases hb with hb | hb
    · exact ⟨⟨.inl (r.hd b hb).1.1, by rw [upd_ne (np b (r.mt b (r.hd b hb).1.1))]; exact (r.hd b hb).1.2⟩, (r.hd b hb).2⟩
    · exact ⟨⟨.inr hb, xs, by rw [hb, upd_same]⟩, fun k hk => by rw [hb]; exact np _ (r.live hk)⟩
theorem Aft.free {p : Addr} (a : Aft c H J H' J' S') (hp : H p = none) (r : RS c H J S) : Aft c H J H' (J'.free p) S' := by
  have ex : Ext J' (J'.free p) := ⟨Nat.le_refl _, fun _ _ => rfl⟩
  have k : Keep H' J' H' (J'.free p) := fun b u e n => ⟨e, n⟩
  exact ⟨⟨a.rs.n, a.rs.inj, fun i u g => ⟨RO.mono k ex rfl (a.rs.ob i u g).1, (a.rs.ob i u g).2⟩, a.rs.mt, fun b hb => a.rs.hd b hb.1, a.rs.tb, a.rs.tt⟩, a.ext.trans ex, a.keep.trans k, fun b hb => ⟨(a.held b hb).1, (a.held b hb).2, fun e => r.mt b (r.hd b hb).1.1 (by rw [e]; exact hp)⟩⟩
/-- the held list changed -/
theorem Aft.grow {p : Addr} {ys : List V} (a : Aft c H J H' J' S') (hp : H p = none) (r : RS c H J S) (hh : J'.h p) : Aft c H J (upd H' p (.lst ys)) J' S' ∧ ∀ ds vs, RVs c H' J' ds vs → RVs c (upd H' p (.lst ys)) J' ds vs := by
  obtain ⟨⟨hm0, xs0, hl0⟩, _⟩ := a.rs.hd p hh
  have k : Keep H' J' (upd H' p (.lst ys)) J' := fun b u e n => ⟨by rw [upd_ne (fun z => n (by rw [z]; exact hm0))]; exact e, n⟩
  refine ⟨⟨⟨a.rs.n, a.rs.inj, fun i u g => ⟨RO.mono k (.refl J') (upd_ne ?_) (a.rs.ob i u g).1, (a.rs.ob i u g).2⟩, fun b hb => ?_, fun b hb => ⟨⟨(a.rs.hd b hb).1.1, ?_⟩, (a.rs.hd b hb).2⟩, tb_lst hl0 a.rs.tb, a.rs.tt.upd plain_lst fun _ _ => .rfl⟩, a.ext, a.keep.trans k, fun b hb => ⟨?_, (a.held b hb).2⟩⟩, RVs.mono k (.refl J')⟩
  · have hi : i < J'.n := by
      rw [a.rs.n]
      rcases Nat.lt_or_ge i S'.length with q | q
      · exact q
      · rw [List.getElem?_eq_none q] at g; cases g
    exact (a.rs.hd p hh).2 i hi
  · by_cases e : b = p
    · rw [e, upd_same]; exact fun z => nomatch z
    · rw [upd_ne e]; exact a.rs.mt b hb
  · by_cases e : b = p
    · rw [e, upd_same]; exact ⟨ys, rfl⟩
    · rw [upd_ne e]; exact (a.rs.hd b hb).1.2
  · rw [upd_ne (fun e => r.mt b (r.hd b hb).1.1 (by rw [e]; exact hp))]; exact (a.held b hb).1
def calm {α : Type} (r : R α) : Prop := (∃ a s, r = .ok a s) ∨ r = .bad
theorem calm_nx {α β : Type} {m : MP.M α} {k : α → MP.M β} {s : Sto} (h : ∀ a s', calm (k a s')) : calm (bd (nx m) k s) := by
  unfold bd nx
  cases m s with
  | ok a s' => exact h a s'
  | exc _ _ _ _ => exact .inr rfl
  | bad => exact .inr rfl
theorem calm_bd {α β : Type} {m : MP.M α} {k : α → MP.M β} {s : Sto} (hm : calm (m s)) (h : ∀ a s', calm (k a s')) : calm (bd m k s) := by
  unfold bd
  rcases hm with ⟨a, s', e⟩ | e
  · rw [e]; exact h a s'
  · rw [e]; exact .inr rfl
theorem compL_ok {tg : MP.Tg} {t : MP.T} {elt : MP.E} {ok : Sto → Bool} {e : En} : ∀ {ds : List D} {s : Sto}, calm (MP.compL tg t elt ok e ds s)
  | [], s => .inl ⟨_, _, rfl⟩
  | d :: r, s => by
    unfold MP.compL
    by_cases h : ok s = true
    · rw [if_pos h]
      cases tg.put d e with
      | none => exact .inr rfl
      | some e' =>
        refine calm_nx fun b s1 => ?_
        cases b
        · exact compL_ok
        · exact calm_nx fun x s2 => calm_bd compL_ok fun ys s3 => .inl ⟨_, _, rfl⟩
    · rw [if_neg h]; exact .inr rfl
/-- the end of a comprehension: the items so far, xs, and those to come -/
def endC (ok : Sto → Bool) (xs : List D) : List D → MP.M (List D) := fun ys s => if ok s && decide ((xs ++ ys).length ≤ LIM) then .ok (xs ++ ys) s else .bad
theorem endC_lt {ok : Sto → Bool} {xs : List D} {x : D} {m : MP.M (List D)} {s : Sto} {r0 : R (List D)} (h : bd m (endC ok (xs ++ [x])) s = r0) (nb : r0 ≠ .bad) (hm : calm (m s)) : xs.length < LIM := by
  unfold bd at h
  rcases hm with ⟨ys, s', e⟩ | e
  · rw [e] at h
    have h : endC ok (xs ++ [x]) ys s' = r0 := h
    unfold endC at h
    split at h
    · rename_i q
      simp only [Bool.and_eq_true, decide_eq_true_eq, List.length_append, List.length_cons, List.length_nil] at q
      omega
    · exact absurd h.symm nb
  · rw [e] at h; exact absurd h.symm nb
def Tg.ids : MP.Tg → List Nat
  | .nm i => [i]
  | .tp ts => ts
  | .nt i js => i :: js
theorem bd_congr {α β : Type} {m m' : MP.M α} {k : α → MP.M β} {s : Sto} (h : m s = m' s) : bd m k s = bd m' k s := by unfold bd; rw [h]
theorem compL_cons {tg : MP.Tg} {t : MP.T} {elt : MP.E} {ok : Sto → Bool} {e e' : En} {d : D} {r : List D} {s : Sto} (h : ok s = true) (hp : tg.put d e = some e') : MP.compL tg t elt ok e (d :: r) s =
    bd (nx (t e')) (fun b => if b = true then bd (nx (elt e')) fun x => bd (MP.compL tg t elt ok e r) fun xs => pu (x :: xs) else MP.compL tg t elt ok e r) s := by
  conv => lhs; unfold MP.compL
  rw [if_pos h, hp]
/-- what a comprehension asks -/
theorem cmp_lc {src : MP.Src} {tg : MP.Tg} {t : MP.T} {elt : MP.E} {vs : List Nat} {σ : L2.St} {H : Hp} {Q : VK} (hi : ∀ i ∈ Tg.ids tg, i ∈ vs) (h : tF c W (MP.cmpF src tg t elt vs) σ H Q) : tLc (tI c W src) (gT c tg) (tT c W0 t) (tM c W0 elt) vs σ H Q := by
  obtain ⟨J, env, S, r, p⟩ := h
  refine tG.imp (bindF (rel' := SrcAt c) r p) fun It H1 ⟨q, S1, J1, a1, r1, v1, p1⟩ => fun D0 hD => ?_
  have p1 : PostF c W σ H1 J1 Q (bd (MP.compL tg t elt q.2 (MP.wipeE env vs) q.1) (endC q.2 []) S1) := p1
  generalize hr : bd (MP.compL tg t elt q.2 (MP.wipeE env vs) q.1) (endC q.2 []) S1 = r0 at p1
  have nb : r0 ≠ .bad := fun e => by rw [e] at p1; exact p1
  refine ⟨fun i m H' => m = q.1.length - i ∧ i ≤ q.1.length ∧ ∃ J' S' acc xs, Aft c H1 J1 H' J' S' ∧ J'.h D0 ∧ H' D0 = some (.lst acc) ∧ RVs c H' J' xs acc ∧ bd (MP.compL tg t elt q.2 (MP.wipeE env vs) (q.1.drop i)) (endC q.2 xs) S' = r0,
    ⟨q.1.length, rfl, Nat.zero_le _, J1.hold D0, S1, [], [], .hold r1.rs hD, .inr rfl, upd_same, rfl, hr⟩, fun i m H' ⟨hm, hi2, J', S', acc, xs, af, hh, hD', hv, hr⟩ => ?_⟩
  by_cases hlt : i < q.1.length
  · refine .inr ?_
    have e : q.1.drop i = q.1[i] :: q.1.drop (i + 1) := List.drop_eq_getElem_cons hlt
    rw [e] at hr
    have hok : q.2 S' = true := by
      by_cases h : q.2 S' = true
      · exact h
      · unfold bd MP.compL at hr
        simp only [if_neg h] at hr
        exact absurd hr.symm nb
    obtain ⟨hgo, hyl⟩ := (v1 H' J' S' af.w hok).1 i hlt
    refine ⟨hgo, fun H2 => ∃ J' S' acc xs, Aft c H1 J1 H2 J' S' ∧ J'.h D0 ∧ H2 D0 = some (.lst acc) ∧ RVs c H2 J' xs acc ∧ bd (MP.compL tg t elt q.2 (MP.wipeE env vs) (q.1.drop (i + 1))) (endC q.2 xs) S' = r0, fun H2 h => ⟨q.1.length - (i + 1), by omega, rfl, by omega, h⟩, fun x H2 y => ?_⟩
    obtain ⟨d, ed, a2, v2, ex⟩ := hyl x H2 y
    have ed : q.1[i] = d := by
      have : q.1[i]? = some q.1[i] := by simp [hlt]
      rw [this] at ed
      exact Option.some.inj ed
    rw [ed] at hr
    cases ep : tg.put d (MP.wipeE env vs) with
    | none =>
      unfold bd MP.compL at hr
      simp only [if_pos hok, ep] at hr
      exact absurd hr.symm nb
    | some e' =>
      have af2 := af.trans a2
      have hr2 : bd (nx (t e')) (fun b => bd (if b = true then bd (nx (elt e')) fun x => bd (MP.compL tg t elt q.2 (MP.wipeE env vs) (q.1.drop (i + 1))) fun xs => pu (x :: xs) else MP.compL tg t elt q.2 (MP.wipeE env vs) (q.1.drop (i + 1))) (endC q.2 xs)) S' = r0 := by
        rw [← MP.bd_bd]
        exact (bd_congr (compL_cons hok ep)).symm.trans hr
      refine ⟨J', _, S', d, e', (((r1.aft af).aft a2).wipe vs), v2, ep, fun σ' r3 hw => ⟨?_, ?_⟩⟩
      · rw [hw vs hi, wipe_wipe]
      · refine tG.imp (bindN (rel' := relB) r3 nb hr2) fun b H3 ⟨b', S3, J3, a3, r4, e3, hr3⟩ => ?_
        cases e3
        have hD3 := (a3.held D0 (a2.held D0 hh).2)
        have hD3' : H3 D0 = some (.lst acc) := by rw [hD3.1, ex D0 _ hD']
        have hv3 := (hv.aft a2).aft a3
        cases b with
        | false => exact ⟨J3, S3, acc, xs, af2.trans a3, hD3.2, hD3', hv3, hr3⟩
        | true =>
          have hr3 : bd (bd (nx (elt e')) fun x => bd (MP.compL tg t elt q.2 (MP.wipeE env vs) (q.1.drop (i + 1))) fun xs => pu (x :: xs)) (endC q.2 xs) S3 = r0 := hr3
          rw [MP.bd_bd] at hr3
          refine tG.imp (bindN (rel' := RV c) r4 nb hr3) fun y H4 ⟨dy, S4, J4, a4, r5, v4, hr4⟩ => ?_
          have hr4 : bd (MP.compL tg t elt q.2 (MP.wipeE env vs) (q.1.drop (i + 1))) (endC q.2 (xs ++ [dy])) S4 = r0 := by
            rw [MP.bd_bd] at hr4
            refine .trans ?_ hr4
            congr 1
            funext ys
            show endC q.2 (xs ++ [dy]) ys = endC q.2 xs (dy :: ys)
            unfold endC
            simp
          have hD4 := a4.held D0 hD3.2
          have hv4 := hv3.aft a4
          have hl := endC_lt hr4 nb compL_ok
          obtain ⟨a5, k5⟩ := Aft.grow (ys := acc ++ [y]) ((af2.trans a3).trans a4) hD r1.rs hD4.2
          exact ⟨acc, hD4.1.trans hD3', by rw [← hv4.length, lim_line]; exact hl, J4, S4, acc ++ [y], xs ++ [dy], a5, hD4.2, upd_same, k5 _ _ (hv4.app (.cons v4 .nil)), hr4⟩
  · have hi3 : i = q.1.length := by omega
    subst hi3
    rw [List.drop_length] at hr
    have hr : endC q.2 xs [] S' = r0 := hr
    unfold endC at hr
    rw [List.append_nil] at hr
    split at hr
    · rename_i hk
      simp only [Bool.and_eq_true] at hk
      subst hr
      refine .inl ⟨(v1 H' J' S' af.w hk.1).2, p1 D0 acc H' (J'.free D0) (af.free hD r1.rs) (af.rs.hd D0 hh).1.1 (fun z => z.2 rfl) (fun k hk => (af.rs.hd D0 hh).2 k hk) hD' ?_⟩
      exact RVs.mono (H := H') (H' := H') (J := J') (J' := J'.free D0) (fun b o e n => ⟨e, n⟩) ⟨Nat.le_refl _, fun _ _ => rfl⟩ _ _ hv
    · exact absurd hr.symm nb
theorem t_yes : PTs X [] (tT c W MP.yes) := ⟨fun pins s σ H Q I ⟨J, env, S, r, p⟩ => pts_nil.run pins s σ H Q I (post_pu r.rs p rfl)⟩
theorem f_cmp {elt iter : Expr} {ifs : List Expr} {scope : Scope} {own : List (Str × Nat)} {src : MP.Src} {tgm : MP.Tg} {t : MP.T} {m : MP.E} (hc : X.calm = true) (hN : X.N.Nodup) (hi : PI X tg iter (tI c W src)) (ok : BlkOk X.N X.env.scope scope own) (hin : ∀ i ∈ Tg.ids tgm, i ∈ own.map (·.2))
    (hg : ∀ (s : Shared) (H : Hp) (C : Addr) (cl : List (Str × Addr)) (fp : List Addr), PG (X.blk s H scope (compEnvC scope cl C X.env) fp) tg (gT c tgm)) (ht : ∀ (s : Shared) (H : Hp) (C : Addr) (cl : List (Str × Addr)) (fp : List Addr), PTs (X.blk s H scope (compEnvC scope cl C X.env) fp) ifs (tT c W0 t))
    (he : ∀ (s : Shared) (H : Hp) (C : Addr) (cl : List (Str × Addr)) (fp : List Addr), PE (X.blk s H scope (compEnvC scope cl C X.env) fp) elt (tM c W0 m)) (hs : ∀ x, foldedSetIterable iter X.env x = pure x := by intro _; rfl) :
    PE X (.ListComp elt [⟨tg, iter, ifs, 0⟩] scope pos) (tF c W (MP.cmpF src tgm t m (own.map (·.2)))) := pe_imp (pe_lc hc hN hi ok hg ht he hs) fun σ H Q h => cmp_lc hin h
end
end MS
namespace MS
open PySem PySem.Spec PyProof.Rows L2
open MP (Sy D Cn Ob Sto R En bd pu no rz nx LIM)
/-- what a statement's result asks -/
def PostS (c : Ct) (W : WX) (Dd : Ends) (H : Hp) (J : Jm) : MP.RS → Prop
  | .nx e s => ∀ σ' H' J', Aft c H J H' J' s → RSt c J' e s σ' H' → Dd.nx σ' H'
  | .rt d s => ∀ v H' J', Aft c H J H' J' s → RV c H' J' d v → Dd.rt v H'
  | .bk e s => ∀ σ' H' J', Aft c H J H' J' s → RSt c J' e s σ' H' → Dd.bk σ' H'
  | .ct e s => ∀ σ' H' J', Aft c H J H' J' s → RSt c J' e s σ' H' → Dd.ct σ' H'
  | .ex e k ns vs s => ∀ σ' H' J' dx, Aft c H J H' J' s → RSt c J' e s σ' H' → XdAt c H' J' dx ns vs → W (.ref (c.cad k)) (some dx) σ' H'
  | .bad => False
def tS (c : Ct) (W : WX) (m : MP.St) : TS := fun Dd σ H => ∃ J env S, RSt c J env S σ H ∧ PostS c W Dd H J (m env S)
section
variable {X : Cx} {c : Ct} {W : WX} {pos p tpos : Pos} {a b e tg : Expr} {es elts : List Expr} {σ : L2.St} {H H1 H' : Hp} {J J1 J' : Jm} {S S1 S' : Sto} {env : En} {st : Stmt} {rest body sa sb : List Stmt} {m m1 m2 : MP.St} {ma mb : MP.E} {Dd Dd' : Ends}
theorem PostS.weak {r : MP.RS} (af : Aft c H J H1 J1 S1) (h : PostS c W Dd H J r) : PostS c W Dd H1 J1 r := by
  cases r with
  | nx e s => exact fun σ' H' J' b => h σ' H' J' (af.trans b)
  | rt d s => exact fun v H' J' b => h v H' J' (af.trans b)
  | bk e s => exact fun σ' H' J' b => h σ' H' J' (af.trans b)
  | ct e s => exact fun σ' H' J' b => h σ' H' J' (af.trans b)
  | ex e k ns vs s => exact fun σ' H' J' dx b => h σ' H' J' dx (af.trans b)
  | bad => exact h
/-- one after the other: a value first -/
theorem postS_ev {γ δ : Type} {rel' : Hp → Jm → γ → δ → Prop} {mm : En → MP.M γ} {k : γ → MP.St} (r : RSt c J env S σ H) (h : PostS c W Dd H J (MP.ev mm k env S)) :
    Post c W σ rel' H J (fun (v : δ) H1 => ∃ d S1 J1, Aft c H J H1 J1 S1 ∧ RSt c J1 env S1 σ H1 ∧ rel' H1 J1 d v ∧ PostS c W Dd H1 J1 (k d env S1)) (mm env S) := by
  unfold MP.ev at h
  cases e : mm env S with
  | ok d S' =>
    rw [e] at h
    exact fun v H' J' af q => ⟨d, S', J', af, r.aft af, q, PostS.weak af h⟩
  | exc k ns vs S' =>
    rw [e] at h
    exact fun H' J' dx fs af e1 n e2 e3 => h σ H' J' dx af (r.aft af) ⟨fs, e1, n, e2, e3⟩
  | bad => rw [e] at h; exact h
theorem bindS {γ δ : Type} {rel' : Hp → Jm → γ → δ → Prop} {mm : En → MP.M γ} {k : γ → MP.St} (r : RSt c J env S σ H) (h : PostS c W Dd H J (MP.ev mm k env S)) :
    tG c W rel' mm σ H fun (v : δ) H1 => ∃ d S1 J1, Aft c H J H1 J1 S1 ∧ RSt c J1 env S1 σ H1 ∧ rel' H1 J1 d v ∧ PostS c W Dd H1 J1 (k d env S1) := ⟨J, env, S, r, postS_ev r h⟩
theorem postS_nx {e' : En} (r : RSt c J e' S σ H) (h : PostS c W Dd H J (.nx e' S)) : Dd.nx σ H := h σ H J (.refl r.rs) r
theorem s_nil : PSs X [] (tS c W MP.nxS) := pss_imp pss_nil fun Dd σ H ⟨J, env, S, r, p⟩ => postS_nx r p
theorem seq_imp (h : tS c W (MP.seq m1 m2) Dd σ H) : tSeq (tS c W m1) (tS c W m2) Dd σ H := by
  obtain ⟨J, env, S, r, p⟩ := h
  refine ⟨J, env, S, r, ?_⟩
  unfold MP.seq at p
  cases e : m1 env S with
  | nx e' s' => rw [e] at p; exact fun σ' H' J' af r' => ⟨J', e', s', r', PostS.weak af p⟩
  | rt d s' => rw [e] at p; exact p
  | bk _ _ => rw [e] at p; exact p
  | ct _ _ => rw [e] at p; exact p
  | ex _ _ _ _ _ => rw [e] at p; exact p
  | bad => rw [e] at p; exact p
theorem s_cons (h1 : PS X st (tS c W m1)) (h2 : PSs X rest (tS c W m2)) : PSs X (st :: rest) (tS c W (MP.seq m1 m2)) := pss_imp (pss_cons h1 h2) fun _ _ _ h => seq_imp h
theorem s_one (h1 : PS X st (tS c W m1)) : PSs X [st] (tS c W m1) := pss_one h1
theorem s_set (i : Nat) {x : Str} {pos' : Pos} (hN : X.N.Nodup) (he : PE X e (tM c W ma)) (hi : X.N[i]? = some x := by rfl) (hx : Loc X.env.scope x := by first | exact .inl rfl | exact .inr rfl) (hs : swapsWith e (some (.Name x pos')) pos.line X.env = pure false := by rfl)
    (hf : X.fn x = true ∨ X.env.scope.names.lookup x = some .local := by first | exact .inl rfl | exact .inr rfl | assumption) : PS X (.Assign [.Name x pos'] e pos) (tS c W (MP.setS i ma)) :=
  ps_imp (ps_set hN hi hx he hs hf) fun Dd σ H ⟨J, env, S, r, p⟩ => tG.imp (bindS (rel' := RV c) r p) fun x H1 ⟨d, S1, J1, a1, r1, v1, p1⟩ => postS_nx (r1.set v1) p1
/-- name = [..] -/
theorem s_setC (i : Nat) {y : Str} {py : Pos} {elt iter : Expr} {ifs : List Expr} {scope : Scope} {spos : Pos} {own : List (Str × Nat)} {src : MP.Src} {tgm : MP.Tg} {t : MP.T} {mm : MP.E} (hc : X.calm = true) (hN : X.N.Nodup) (ok : BlkOk X.N X.env.scope scope own) (hi : PI X tg iter (tI c W src)) (hin : ∀ i ∈ Tg.ids tgm, i ∈ own.map (·.2))
    (hg : ∀ (s : Shared) (H : Hp) (C : Addr) (cl : List (Str × Addr)) (fp : List Addr), PG (X.blk s H scope (compEnvC scope cl C X.env) fp) tg (gT c tgm)) (ht : ∀ (s : Shared) (H : Hp) (C : Addr) (cl : List (Str × Addr)) (fp : List Addr), PTs (X.blk s H scope (compEnvC scope cl C X.env) fp) ifs (tT c W0 t))
    (he : ∀ (s : Shared) (H : Hp) (C : Addr) (cl : List (Str × Addr)) (fp : List Addr), PE (X.blk s H scope (compEnvC scope cl C X.env) fp) elt (tM c W0 mm)) (hk : X.env.scope.kind = .function) (hy : X.N[i]? = some y := by rfl) (hyl : X.env.scope.names.lookup y = some .local := by rfl)
    (hl : (py.line == pos.line) = true := by rfl) (ha : (scope.names.any fun (n, k) => n == y && (k == .local || k == .cell)) = false := by rfl) (hs : ∀ x, foldedSetIterable iter X.env x = pure x := by intro _; rfl) :
    PS X (.Assign [.Name y py] (.ListComp elt [⟨tg, iter, ifs, 0⟩] scope pos) spos) (tS c W (MP.setS i (MP.newE (MP.cmpF src tgm t mm (own.map (·.2)))))) :=
  ps_imp (ps_setLc hc hN hy hyl (sw_true hk hyl hl ha) hi ok hg ht he hs) fun Dd σ H ⟨J, env, S, r, p⟩ => by
    refine cmp_lc (c := c) (W := W) (src := src) (tg := tgm) (t := t) (elt := mm) hin ?_
    refine ⟨J, env, S, r, ?_⟩
    unfold MP.setS MP.ev MP.newE bd at p
    cases q : MP.cmpF src tgm t mm (own.map (·.2)) env S with
    | ok ds S' =>
      simp only [q] at p
      intro a xs H' J' af hm nh hj hl hv
      obtain ⟨af2, rv⟩ := af.add hm nh hj hl hv
      exact p _ H' (J'.add a) af2 ((r.aft af2).set rv)
    | exc k ns vs S' =>
      simp only [q] at p
      exact fun H' J' dx fs af e1 n e2 e3 => p σ H' J' dx af (r.aft af) ⟨fs, e1, n, e2, e3⟩
    | bad => simp only [q] at p; exact p
theorem s_expr (he : PE X e (tM c W ma)) (hs : swapsWith e none pos.line X.env = pure false := by rfl) : PS X (.Expr e pos) (tS c W (MP.exprS ma)) :=
  ps_imp (ps_expr he hs) fun Dd σ H ⟨J, env, S, r, p⟩ => tG.imp (bindS (rel' := RV c) r p) fun x H1 ⟨d, S1, J1, a1, r1, v1, p1⟩ => postS_nx r1 p1
theorem s_ret (he : PE X e (tM c W ma)) : PS X (.Return (some e) pos) (tS c W (MP.retS ma)) :=
  ps_imp (ps_ret he) fun Dd σ H ⟨J, env, S, r, p⟩ => tG.imp (bindS (rel' := RV c) r p) fun x H1 ⟨d, S1, J1, a1, r1, v1, p1⟩ => p1 x H1 J1 (.refl r1.rs) v1
theorem s_if {t : MP.T} (ht : PT X e (tT c W t)) (ha : PSs X sa (tS c W m1)) (hb : PSs X sb (tS c W m2)) : PS X (.If e sa sb pos) (tS c W (MP.ifS t m1 m2)) :=
  ps_imp (ps_if ht ha hb) fun Dd σ H ⟨J, env, S, r, p⟩ => tG.imp (bindS (rel' := relB) r p) fun x H1 ⟨d, S1, J1, a1, r1, v1, p1⟩ => by
    cases v1
    cases x with
    | true => exact ⟨J1, env, S1, r1, p1⟩
    | false => exact ⟨J1, env, S1, r1, p1⟩
theorem ss_no {sts : List Stmt} : PSs X sts (tS c W MP.noS) := pss_imp pss_never fun Dd σ H ⟨J, env, S, r, p⟩ => p.elim
theorem s_for {iter : Expr} {src : MP.Src} {tgm : MP.Tg} (hp : PassesOwn (model X.prog X.w) X.A X.env X.xe) (hc : X.calm = true) (hi : PI X tg iter (tI c W src)) (hg : PG X tg (gT c tgm)) (hb : PSs X body (tS c W m)) (hs : ∀ x, foldedSetIterable iter X.env x = pure x := by intro _; rfl) :
    PS X (.For tg iter body [] pos) (tS c W (MP.forS src tgm m)) := ps_imp (ps_for hp hc hi hg hb hs) fun Dd σ H ⟨J, env, S, r, p⟩ => by
  refine tG.imp (bindS (rel' := SrcAt c) r p) fun It H1 ⟨q, S1, J1, a1, r1, v1, p1⟩ => ?_
  generalize hr : MP.loopL tgm m q.2 q.1 env S1 = r0 at p1
  have nb : r0 ≠ .bad := fun e => by rw [e] at p1; exact p1
  refine ⟨fun i k σ' H' => k = q.1.length - i ∧ i ≤ q.1.length ∧ ∃ J' e' S', Aft c H1 J1 H' J' S' ∧ RSt c J' e' S' σ' H' ∧ MP.loopL tgm m q.2 (q.1.drop i) e' S' = r0, ⟨q.1.length, rfl, Nat.zero_le _, J1, env, S1, .refl r1.rs, r1, hr⟩, fun i k σ' H' ⟨hk, hi2, J', e', S', af, r2, hr⟩ => ?_⟩
  by_cases hlt : i < q.1.length
  · refine .inr ?_
    have e : q.1.drop i = q.1[i] :: q.1.drop (i + 1) := List.drop_eq_getElem_cons hlt
    rw [e] at hr
    have hok : q.2 S' = true := by
      by_cases h : q.2 S' = true
      · exact h
      · unfold MP.loopL at hr
        rw [if_neg h] at hr
        exact absurd hr.symm nb
    obtain ⟨hgo, hyl⟩ := (v1 H' J' S' af.w hok).1 i hlt
    refine ⟨hgo, fun σ2 H2 => ∃ J' e' S', Aft c H1 J1 H2 J' S' ∧ RSt c J' e' S' σ2 H2 ∧ MP.loopL tgm m q.2 (q.1.drop (i + 1)) e' S' = r0, fun σ2 H2 h => ⟨q.1.length - (i + 1), by omega, rfl, by omega, h⟩, fun x H2 y => ?_⟩
    obtain ⟨d, ed, a2, v2, ex⟩ := hyl x H2 y
    have ed : q.1[i] = d := by
      have : q.1[i]? = some q.1[i] := by simp [hlt]
      rw [this] at ed
      exact Option.some.inj ed
    rw [ed] at hr
    unfold MP.loopL at hr
    rw [if_pos hok] at hr
    cases ep : tgm.put d e' with
    | none => rw [ep] at hr; exact absurd hr.symm nb
    | some e2 =>
      rw [ep] at hr
      have af2 := af.trans a2
      refine ⟨J', e', S', d, e2, r2.aft a2, v2, ep, fun σ3 r3 _ => ⟨J', e2, S', r3, ?_⟩⟩
      cases eb : m e2 S' with
      | nx e3 S3 =>
        simp only [eb] at hr
        exact fun σ4 H4 J4 a4 r4 => ⟨J4, e3, S3, af2.trans a4, r4, hr⟩
      | ct e3 S3 =>
        simp only [eb] at hr
        exact fun σ4 H4 J4 a4 r4 => ⟨J4, e3, S3, af2.trans a4, r4, hr⟩
      | bk e3 S3 =>
        simp only [eb] at hr
        subst hr
        exact fun σ4 H4 J4 a4 r4 => p1 σ4 H4 J4 (af2.trans a4) r4
      | rt d3 S3 =>
        simp only [eb] at hr
        subst hr
        exact fun v4 H4 J4 a4 r4 => p1 v4 H4 J4 (af2.trans a4) r4
      | ex e3 k3 ns vs S3 =>
        simp only [eb] at hr
        subst hr
        exact fun σ4 H4 J4 dx a4 r4 x4 => p1 σ4 H4 J4 dx (af2.trans a4) r4 x4
      | bad => simp only [eb] at hr; exact absurd hr.symm nb
  · have hi3 : i = q.1.length := by omega
    subst hi3
    rw [List.drop_length] at hr
    unfold MP.loopL at hr
    split at hr
    · rename_i hok
      subst hr
      exact .inl ⟨(v1 H' J' S' af.w hok).2, p1 σ' H' J' af r2⟩
    · exact absurd hr.symm nb
end
end MS
namespace MS
open PySem PySem.Spec PyProof.Rows L2
open MP (Sy D Cn Ob Sto R En bd pu no rz nx LIM)
section
variable {X : Cx} {c : Ct} {W : WX} {pos p tpos : Pos} {a b e o i tg : Expr} {es elts : List Expr} {σ : L2.St} {H H1 H' : Hp} {J J1 J' : Jm} {S S1 S' : Sto} {env : En} {st : Stmt} {rest body sa sb : List Stmt} {m m1 m2 : MP.St} {ma mb mo mi : MP.E} {Dd Dd' : Ends}
/-- what mutL asks: the list, its new content -/
theorem mut_of {x : D} {v : V} {f : List D → Option (List D)} {Q : VK} (rs : RS c H J S) (hv : RV c H J x v) (pp : Post c W σ (RV c) H J Q (MP.mutL f x S)) :
    ∃ n l xs ds ys, x = .ref n ∧ v = .ref l ∧ l = J.j n ∧ S[n]? = some ⟨true, .lst ds⟩ ∧ H l = some (.lst xs) ∧ RVs c H J ds xs ∧ f ds = some ys ∧ ys.length ≤ LIM ∧ ∀ zs, RVs c H J ys zs → Q .non (upd H l (.lst zs)) := by
  unfold MP.mutL at pp
  cases x <;> try exact pp.elim
  rename_i n
  obtain ⟨hn, rfl⟩ := hv
  simp only at pp
  cases q : S[n]? with
  | none => simp only [q] at pp; exact pp.elim
  | some ob =>
    obtain ⟨w, cn⟩ := ob
    cases w <;> cases cn <;> simp only [q] at pp <;> try exact pp.elim
    rename_i ds
    cases q2 : f ds with
    | none => simp only [q2] at pp; exact pp.elim
    | some ys =>
      simp only [q2] at pp
      by_cases q3 : ys.length ≤ LIM
      · rw [if_pos q3] at pp
        obtain ⟨⟨xs, g1, g2⟩, _⟩ := rs.ob n _ q
        exact ⟨n, _, xs, ds, ys, rfl, rfl, rfl, q, g1, g2, q2, q3, fun zs hz => pp .non _ J (rs.chg q hz) rfl⟩
      · rw [if_neg q3] at pp
        exact pp.elim
/-- a list of the store, read -/
theorem lstq_of {γ : Type} {rel : Hp → Jm → γ → V → Prop} {x : D} {v : V} {k : List D → MP.M γ} {Q : VK} (rs : RS c H J S) (hv : RV c H J x v) (pp : Post c W σ rel H J Q (bd (MP.lstQ x) k S)) :
    ∃ n xs ds, x = .ref n ∧ v = .ref (J.j n) ∧ H (J.j n) = some (.lst xs) ∧ RVs c H J ds xs ∧ Post c W σ rel H J Q (k ds S) := by
  unfold bd MP.lstQ at pp
  cases x <;> try exact pp.elim
  rename_i n
  obtain ⟨hn, rfl⟩ := hv
  simp only at pp
  cases q : S[n]? with
  | none => simp only [q] at pp; exact pp.elim
  | some ob =>
    obtain ⟨w, cn⟩ := ob
    cases w <;> cases cn <;> simp only [q] at pp <;> try exact pp.elim
    obtain ⟨⟨xs, g1, g2⟩, _⟩ := rs.ob n _ q
    exact ⟨n, xs, _, rfl, rfl, g1, g2, pp⟩
/-- xs.append(e) -/
theorem e_app {apos cpos : Pos} (hk : X.K = c.K) (ho : PE X o (tM c W mo)) (ha : PE X e (tM c W ma)) (hbase : attributeBase o "append" X.env (eval o X.env) = eval o X.env := by rfl)
    (hfew : ((backTo cpos (starEach [e] X.env)).all (fun x => !x.1) && (backToKw cpos (keywordEach [] X.env)).all (fun x => x.1.isSome) && decide ([e].length + ([] : List Keyword).length + (if ([] : List Keyword).isEmpty then 0 else 1) < 30)) = true := by rfl)
    (hline : (apos.endLine == cpos.line) = true := by rfl) (hs : starEach [e] X.env = [(false, eval e X.env)] := by rfl) (hplain : (backTo cpos (starEach [] X.env)).any (·.1) = false := by rfl) :
    PE X (.Call (.Attribute o "append" apos) [e] [] cpos) (tM c W (MP.appE mo ma)) :=
  pe_imp (pe_bm PySem.F.plainAttrs_list PySem.F.slot_list_append PySem.F.type_list_append mt_append ho (pa_cons ha pa_nil hs) hbase hfew hline hs hplain) fun σ H Q ⟨J, env, S, r, pp⟩ =>
    tG.imp (bind (rel' := RV c) r pp) fun x H1 ⟨d, S1, J1, a1, r1, v1, p1⟩ => by
      obtain ⟨n, xs, ds, rfl, rfl, hl, hv, p2⟩ := lstq_of r1.rs v1 p1
      refine ⟨.inl ⟨rfl, xs, .inl (.inl hl)⟩, tG.imp (bind (rel' := RV c) r1 p2) fun y H2 ⟨dy, S2, J2, a2, r2, v2, p3⟩ => ?_⟩
      obtain ⟨n', l, ys, es, zs, e1, e2, e3, q1, q2, q3, q4, q5, q6⟩ := mut_of r2.rs (v1.aft a2) p3
      cases e1; cases e2
      have q4 : (if es.length < LIM then some (es ++ [dy]) else none) = some zs := q4
      split at q4
      · rename_i hlt
        cases q4
        exact ⟨_, ys, y, rfl, rfl, q2, by rw [← q3.length, lim_line]; exact hlt, q6 _ (q3.app (.cons v2 .nil))⟩
      · cases q4
theorem lstQ_cases (x : D) (S : Sto) : MP.lstQ x S = .bad ∨ ∃ n ds, x = .ref n ∧ S[n]? = some ⟨true, .lst ds⟩ ∧ MP.lstQ x S = .ok ds S := by
  unfold MP.lstQ
  cases x <;> try exact .inl rfl
  rename_i n
  simp only
  cases q : S[n]? with
  | none => exact .inl rfl
  | some ob =>
    obtain ⟨w, cn⟩ := ob
    cases w <;> cases cn <;> first | exact .inl rfl | exact .inr ⟨n, _, rfl, q, rfl⟩
theorem lstq_ofF {x : D} {v : V} {k : List D → MP.M (List D)} {Q : VK} (rs : RS c H J S) (hv : RV c H J x v) (pp : PostF c W σ H J Q (bd (MP.lstQ x) k S)) :
    ∃ n xs ds, x = .ref n ∧ v = .ref (J.j n) ∧ H (J.j n) = some (.lst xs) ∧ RVs c H J ds xs ∧ PostF c W σ H J Q (k ds S) := by
  unfold bd at pp
  rcases lstQ_cases x S with e | ⟨n, ds, rfl, e1, e⟩
  · rw [e] at pp; exact pp.elim
  · rw [e] at pp
    obtain ⟨hn, rfl⟩ := hv
    obtain ⟨⟨xs, g1, g2⟩, _⟩ := rs.ob n _ e1
    exact ⟨n, xs, ds, rfl, rfl, g1, g2, pp⟩
/-- xs + ys -/
theorem f_cat (ha : PE X a (tM c W ma)) (hb : PE X b (tM c W mb)) : PE X (.BinOp a .Add b pos) (tF c W (MP.catF ma mb)) := pe_imp (pe_op op_cat ha hb) fun σ H Q ⟨J, env, S, r, pp⟩ =>
  tG.imp (bindF (rel' := RV c) r pp) fun x H1 ⟨d, S1, J1, a1, r1, v1, p1⟩ => tG.imp (bindF (rel' := RV c) r1 p1) fun y H2 ⟨dy, S2, J2, a2, r2, v2, p2⟩ => by
    obtain ⟨n, xs, ds, rfl, rfl, hl, hv, p3⟩ := lstq_ofF r2.rs (v1.aft a2) p2
    obtain ⟨n', ys, es, rfl, rfl, hl', hv', p4⟩ := lstq_ofF r2.rs v2 p3
    by_cases q : ds.length + es.length ≤ LIM
    · have p4 : PostF c W σ H2 J2 Q ((if ds.length + es.length ≤ LIM then pu (ds ++ es) else no) S2) := p4
      rw [if_pos q] at p4
      exact ⟨_, _, xs, ys, rfl, rfl, hl, hl', by rw [← hv.length, ← hv'.length, lim_line]; exact q, fun t ht => newPost r2.rs p4 (hv.app hv') ht⟩
    · have p4 : PostF c W σ H2 J2 Q ((if ds.length + es.length ≤ LIM then pu (ds ++ es) else no) S2) := p4
      rw [if_neg q] at p4
      exact p4.elim
/-- o[i] = v -/
theorem s_put {spos : Pos} (ho : PE X o (tM c W mo)) (hi : PE X i (tM c W mi)) (he : PE X e (tM c W ma)) (h1 : ∀ v, assign (.Subscript o i tpos) X.env v = (do
      let ov ← holding [v] (eval o X.env)
      let iv ← holding [v, ov] (eval i X.env)
      standAt tpos
      holding [v, ov, iv] (setItem ov iv v)
      release [v, ov, iv] []) := by intro _; rfl) (hs : swapsWithSole [.Subscript o i tpos] e spos.line X.env = pure false := by rfl) (hw : swappedStores [.Subscript o i tpos] e X.env = pure none := by rfl)
    (h2 : (assignEach [.Subscript o i tpos] X.env).map (·.2) = [assign (.Subscript o i tpos) X.env] := by rfl) : PS X (.Assign [.Subscript o i tpos] e spos) (tS c W (MP.putS mo mi ma)) :=
  ps_imp (ps_asg he (pg_sub ho hi set_list h1) hs hw h2) fun Dd σ H ⟨J, env, S, r, pp⟩ => tG.imp (bindS (rel' := RV c) r pp) fun x H1 ⟨d, S1, J1, a1, r1, v1, p1⟩ => tG.imp (bindS (rel' := RV c) r1 p1) fun y H2 ⟨dy, S2, J2, a2, r2, v2, p2⟩ =>
    tG.imp (bindS (rel' := RV c) r2 p2) fun z H3 ⟨dz, S3, J3, a3, r3, v3, p3⟩ => by
      have p4 := postS_ev (rel' := RV c) r3 p3
      cases dz <;> try exact p4.elim
      rename_i k
      cases v3
      obtain ⟨n, l, xs, ds, ys, rfl, rfl, rfl, q1, q2, q3, q4, q5, q6⟩ := mut_of r3.rs (v2.aft a3) p4
      have q4 : (MP.ixO ds.length k).map (fun j => ds.set j d) = some ys := q4
      cases q7 : MP.ixO ds.length k with
      | none => rw [q7] at q4; cases q4
      | some j =>
        rw [q7] at q4
        cases q4
        refine ⟨_, xs, k, j, rfl, rfl, q2, by rw [← q3.length]; exact q7, ?_⟩
        obtain ⟨d5, S5, J5, a5, r5, v5, p5⟩ := q6 _ (q3.set j ((v1.aft a2).aft a3))
        exact postS_nx r5 p5
end
end MS
namespace MS
open PySem PySem.Spec PyProof.Rows L2
open MP (Sy D Cn Ob Sto R En bd pu no rz nx LIM)
section
variable {X : Cx} {c c' : Ct} {W : WX} {pos p tpos : Pos} {a b e o i tg : Expr} {es elts : List Expr} {σ : L2.St} {H H1 H' : Hp} {J J1 J' : Jm} {S S1 S' : Sto} {env : En} {st : Stmt} {rest body sa sb : List Stmt} {m m1 m2 : MP.St} {ma mb mo mi : MP.E} {Dd Dd' : Ends}
def hIni (a C dx : Addr) (H : Hp) (fs : List (Str × V)) (f : Str) (v : V) : Hp := upd (upd (upd H dx (exd dx fs)) a (exo a C (some dx))) dx (exd dx ((f, v) :: fs))
def spE1 (C : Addr) (w f : Str) : Sp := fun vs H Q _ => ∃ a v, vs = [.ref a, v] ∧ H a = some (exo a C none) ∧ ∀ dx, H dx = none → dx ≠ a → Q .non (hIni a C dx H [("word", .str w)] f v)
theorem XdAt.xa (hk : c'.K = c.K) {d : Addr} {ns : List Sy} {vs : List D} (h : XdAt c H J d ns vs) : XdAt c' H J d ns vs :=
  let ⟨fs, e1, n, e2, v⟩ := h
  ⟨fs, e1, n, e2, RVs.xa hk _ _ v⟩
abbrev Ct.hand (c : Ct) (x : Xa) : Ct := { c with xa := some x }
section
variable {x : Xa}
theorem RS.hand (r : RS c H J S) : RS (c.hand x) H J S := RS.xa (c := c) (c' := c.hand x) rfl rfl rfl r
theorem RS.unhand (r : RS (c.hand x) H J S) : RS c H J S := RS.xa (c := c.hand x) (c' := c) rfl rfl rfl r
theorem RV.hand {d : D} {v : V} (r : RV c H J d v) : RV (c.hand x) H J d v := RV.xa (c := c) (c' := c.hand x) rfl d v r
theorem RV.unhand {d : D} {v : V} (r : RV (c.hand x) H J d v) : RV c H J d v := RV.xa (c := c.hand x) (c' := c) rfl d v r
theorem Aft.unhand (r : Aft (c.hand x) H J H' J' S) : Aft c H J H' J' S := Aft.xa (c := c.hand x) (c' := c) rfl rfl rfl r
theorem XdAt.hand {d : Addr} {ns : List Sy} {vs : List D} (h : XdAt c H J d ns vs) : XdAt (c.hand x) H J d ns vs := XdAt.xa (c := c) (c' := c.hand x) rfl h
end
theorem RSt.catch_ (hx : c.xa = none) {i : Nat} {a d : Addr} {ns : List Sy} {vs : List D} (r : RSt c J env S σ H) (h : XdAt c H J d ns vs) (hi : i < σ.length) : RSt (c.hand ⟨i, a, d, ns, vs⟩) J (env.set i .ex) S (σ.set i (some (.ref a))) H := by
  have hie : i < env.length := by rw [← r.len]; exact hi
  refine ⟨r.rs.hand, by simp [r.len], fun j x e => ?_, fun j e => ?_, fun x e => ?_, fun j e => ?_, r.fk, fun y ey j d e => let ⟨v, e1, h⟩ := r.fl y ey j d e; ⟨v, e1, h.hand⟩⟩
  · by_cases q : i = j
    · subst q
      rw [List.getElem?_set_self hie] at e
      cases e
    · rw [List.getElem?_set_ne q] at e ⊢
      obtain ⟨v, e1, h1⟩ := r.loc j x e
      exact ⟨v, e1, h1.hand⟩
  · by_cases q : i = j
    · subst q
      exact ⟨_, rfl, rfl, List.getElem?_set_self hi⟩
    · rw [List.getElem?_set_ne q] at e
      obtain ⟨x, e1, _⟩ := r.ex j e
      rw [hx] at e1
      cases e1
  · cases e
    exact h.hand
  · by_cases q : i = j
    · subst q
      rw [List.getElem?_set_self hie] at e
      cases e
    · rw [List.getElem?_set_ne q] at e ⊢
      exact r.fu j e
theorem RSt.back (hx : c.xa = none) {x : Xa} {o : Option V} (r : RSt (c.hand x) J env S σ H) : RSt c J (env.set x.i .un) S (σ.set x.i o) H := by
  refine ⟨r.rs.unhand, by simp [r.len], fun j d e => ?_, fun j e => ?_, fun y e => ?_, fun j e => ?_, r.fk, fun y ey j d e => let ⟨v, e1, h⟩ := r.fl y ey j d e; ⟨v, e1, h.unhand⟩⟩
  · by_cases q : x.i = j
    · subst q
      rcases Nat.lt_or_ge x.i env.length with z | z
      · rw [List.getElem?_set_self z] at e; cases e
      · rw [List.getElem?_eq_none (by simpa using z)] at e; cases e
    · rw [List.getElem?_set_ne q] at e ⊢
      obtain ⟨v, e1, h1⟩ := r.loc j d e
      exact ⟨v, e1, h1.unhand⟩
  · by_cases q : x.i = j
    · subst q
      rcases Nat.lt_or_ge x.i env.length with z | z
      · rw [List.getElem?_set_self z] at e; cases e
      · rw [List.getElem?_eq_none (by simpa using z)] at e; cases e
    · rw [List.getElem?_set_ne q] at e
      obtain ⟨y, e1, e2, _⟩ := r.ex j e
      cases e1
      exact absurd e2.symm q
  · rw [hx] at e; cases e
  · by_cases q : x.i = j
    · subst q
      rcases Nat.lt_or_ge x.i env.length with z | z
      · rw [List.getElem?_set_self z] at e; cases e
      · rw [List.getElem?_eq_none (by simpa using z)] at e; cases e
    · rw [List.getElem?_set_ne q] at e ⊢
      exact r.fu j e
/-- the reading of an except suite, the error at a in hand -/
def tHd (c : Ct) (i : Nat) (h : List Sy → List D → MP.St) : Addr → Value → Option Addr → TS := fun a cls d Dd σ H => ∃ k dx ns vs, cls = .ref (c.cad k) ∧ d = some dx ∧ tS (c.hand ⟨i, a, dx, ns, vs⟩) W0 (h ns vs) Dd σ H
theorem look_of {f : Sy} {v : D} : ∀ {ns : List Sy} {vs : List D} {fs : List (Str × V)}, fs.map (·.1) = ns.map sy → RVs c H J vs (fs.map (·.2)) → (ns.zip vs).lookup f = some v → ∃ u, fs.lookup (sy f) = some u ∧ RV c H J v u
  | [], _, _, _, _, h => by simp at h
  | _ :: _, [], _, _, _, h => by simp at h
  | g :: ns, w :: vs, [], e, _, _ => by simp at e
  | g :: ns, w :: vs, (q, u) :: fs, e, hv, h => by
    obtain ⟨u', t, e1, h1, h2⟩ := hv
    simp only [List.map_cons, List.cons.injEq] at e e1
    obtain ⟨e2, e3⟩ := e
    obtain ⟨e4, e5⟩ := e1
    subst e4
    rw [List.zip_cons_cons, List.lookup_cons] at h
    rw [List.lookup_cons]
    by_cases hg : f = g
    · subst hg
      simp only [beq_self_eq_true] at h
      cases h
      refine ⟨u, ?_, h1⟩
      rw [e2]
      simp
    · have q1 : (f == g) = false := by simpa using hg
      rw [q1] at h
      have q2 : (sy f == q) = false := by
        rw [e2]
        exact beq_eq_false_iff_ne.mpr fun z => hg (sy_inj z)
      rw [q2]
      rw [← e5] at h2
      exact look_of e3 h2 h
/-- e.f in such a suite -/
theorem e_xf {x : Xa} {k : Nat} {oe : Obj} {pn : List (Addr × Obj)} {nm : Str} {np : Pos} {f : Sy} {fS : Str} (T : XfC X.K (c.cad k)) (hno : PySem.W.findIn X.K (.ref (c.cad k)) fS = some none) (hz : Zc (.ref (c.cad k)) (some x.d) oe) (hf : ∃ vs, oe.data = .fields vs) (hN : X.N[x.i]? = some nm) (hv : Vis X.env.scope nm)
    (hS : fS = sy f) (hd : (nm == ("__debug__" : Str)) = false := by decide) (hcd : (nm == ("__classdict__" : Str)) = false := by decide) (hb : attributeBase (.Name nm np) fS X.env (eval (.Name nm np) X.env) = eval (.Name nm np) X.env := by rfl) :
    PE (X.suite x.a ((x.a, oe) :: pn)) (.Attribute (.Name nm np) fS pos) (tM (c.hand x) W0 (MP.xfE x.ns x.vs x.i f)) :=
  pe_imp (pe_xf (X := X) T hno hz hf (pe_var (X := X.suite x.a ((x.a, oe) :: pn)) (i := x.i) hN hv hd hcd) hb) fun σ H Q ⟨J, env, S, r, pp⟩ => by
    unfold MP.xfE at pp
    cases q : env[x.i]? with
    | none => simp only [q] at pp; exact pp.elim
    | some sl =>
      cases sl <;> simp only [q] at pp <;> try exact pp.elim
      cases q2 : (x.ns.zip x.vs).lookup f with
      | none => simp only [q2] at pp; exact pp.elim
      | some v =>
        simp only [q2] at pp
        obtain ⟨y, e1, _, e2⟩ := r.ex _ q
        cases e1
        obtain ⟨fs, h1, _, h2, h3⟩ := r.xd x rfl
        obtain ⟨u, h4, h5⟩ := look_of h2 h3 q2
        exact ⟨_, e2, rfl, rfl, x.d, fs, u, rfl, h1, by rw [hS]; exact h4, post_pu r.rs pp h5⟩
end
end MS
namespace MS
open PySem PySem.Spec PyProof.Rows L2
open MP (Sy D Cn Ob Sto R En bd pu no rz nx LIM)
section
variable {X : Cx} {c : Ct} {W : WX} {pos p tpos : Pos} {a b d e tg : Expr} {es elts : List Expr} {kk : Nat} {ma mb md : MP.E} {ms : MP.Es} {σ : L2.St} {H : Hp} {J : Jm} {S : Sto} {x : Str}
/-- what stands at t while the watch holds: a list (true) or a tuple -/
def RowAt (c : Ct) (H : Hp) (J : Jm) (ds : List D) (f : Sto → Bool) (l : Bool) (t : Addr) : Prop := ∀ H1 J1 S1, AftW c H J H1 J1 S1 → f S1 = true → ∃ xs, (if l then SqL c.K H1 t xs else SqT c.K H1 t xs) ∧ RVs c H1 J1 ds xs
theorem row_of {d : D} {v : V} {γ δ : Type} {rel : Hp → Jm → γ → δ → Prop} {Q : δ → Hp → Prop} {k : List D → MP.M γ} (rs : RS c H J S) (hv : RV c H J d v) (pp : Post c W σ rel H J Q (bd (MP.itemsO d) k S)) :
    ∃ t ds, v = .ref t ∧ RowAt c H J ds (MP.watch d S) (!(match d with | .tup _ => true | _ => false)) t ∧ Post c W σ rel H J Q (k ds S) := by
  unfold bd MP.itemsO at pp
  cases d <;> try exact pp.elim
  · rename_i ds
    obtain ⟨t, xs, rfl, h1, h2⟩ := hv
    exact ⟨t, ds, rfl, fun H1 J1 S1 af _ => ⟨xs, (h1.keep af.keep).sq, h2.aftw af⟩, pp⟩
  · rename_i ds
    obtain ⟨t, xs, rfl, h1, h2⟩ := hv
    exact ⟨t, ds, rfl, fun H1 J1 S1 af _ => ⟨xs, (h1.keep af.keep).sq, h2.aftw af⟩, pp⟩
  · rename_i n
    obtain ⟨hn, rfl⟩ := hv
    simp only at pp
    cases q : S[n]? with
    | none => simp only [q] at pp; exact pp.elim
    | some ob =>
      obtain ⟨w, cn⟩ := ob
      cases cn <;> simp only [q] at pp <;> try exact pp.elim
      rename_i ds
      refine ⟨_, ds, rfl, fun H1 J1 S1 af hw => ?_, pp⟩
      obtain ⟨xs, h1, h2⟩ := ref_at rs hn q af hw
      exact ⟨xs, .inl (.inl h1), h2⟩
theorem enumL_get : ∀ {ds : List D} {k i : Nat} {d : D}, ds[i]? = some d → (MP.enumL k ds)[i]? = some (.tup [.int ((k + i : Nat) : Int), d])
  | [], _, _, _, h => by simp at h
  | x :: r, k, 0, d, h => by
    simp at h
    subst h
    simp [MP.enumL]
  | x :: r, k, i + 1, d, h => by
    have := enumL_get (k := k + 1) (i := i) (ds := r) (by simpa using h)
    simp only [MP.enumL, List.getElem?_cons_succ]
    rw [this]
    congr 4
    omega
theorem enumL_len : ∀ {ds : List D} {k : Nat}, (MP.enumL k ds).length = ds.length
  | [], _ => rfl
  | _ :: r, k => by simp [MP.enumL, enumL_len (ds := r)]
/-- the pairs of enumerate -/
theorem src_enum {l : Bool} {t : Addr} {ds : List D} {f : Sto → Bool} (h : RowAt c H J ds f l t) : SrcAt c H J (MP.enumL 0 ds, f) (if l then Ite c.K t else IteT c.K t) := fun H1 J1 S1 af hw => by
  obtain ⟨xs, h1, h2⟩ := h H1 J1 S1 af hw
  have hl := h2.length
  have key : ∀ i, i < (MP.enumL 0 ds).length → ∃ x d, xs[i]? = some x ∧ ds[i]? = some d ∧ RV c H1 J1 d x := fun i hi => by
    rw [enumL_len] at hi
    obtain ⟨v, e, hd⟩ := h2.get (i := i) (d := ds[i]) (by simp [hi])
    exact ⟨v, _, e, by simp [hi], hd⟩
  have fin : ∀ {i : Nat} {x : V} {d : D} {T : Addr}, ds[i]? = some d → RV c H1 J1 d x → H1 T = none → ∃ d', (MP.enumL 0 ds)[i]? = some d' ∧ Aft c H1 J1 (upd H1 T (.tup [.int ((i : Nat) : Int), x])) J1 S1 ∧ RV c (upd H1 T (.tup [.int ((i : Nat) : Int), x])) J1 d' (.ref T) ∧ ∀ b o, H1 b = some o → upd H1 T (.tup [.int ((i : Nat) : Int), x]) b = some o := fun {i x d T} e hd hT =>
    ⟨_, enumL_get (k := 0) e, af.rs.newT hT, .tup af.rs hT (.cons (by show V.int _ = V.int _; rw [Nat.zero_add]) (.cons hd .nil)), fun b o eb => by rw [upd_ne (ne_of_none eb hT)]; exact eb⟩
  cases l with
  | true =>
    have h1 : SqL c.K H1 t xs := h1
    refine ⟨fun i hi => ?_, ⟨xs, h1, by show xs.length ≤ (MP.enumL 0 ds).length; rw [enumL_len, hl]; exact Nat.le_refl _⟩⟩
    obtain ⟨x, d, e1, e2, hd⟩ := key i hi
    refine ⟨⟨xs, x, h1, e1⟩, fun y H2 ⟨T, x', ey, hT, eH, hx⟩ => ?_⟩
    have := hx xs h1
    rw [e1] at this
    cases this
    subst ey eH
    exact fin e2 hd hT
  | false =>
    have h1 : SqT c.K H1 t xs := h1
    refine ⟨fun i hi => ?_, ⟨xs, h1, by show xs.length ≤ (MP.enumL 0 ds).length; rw [enumL_len, hl]; exact Nat.le_refl _⟩⟩
    obtain ⟨x, d, e1, e2, hd⟩ := key i hi
    refine ⟨⟨xs, x, h1, e1⟩, fun y H2 ⟨T, x', ey, hT, eH, hx⟩ => ?_⟩
    have := hx xs h1
    rw [e1] at this
    cases this
    subst ey eH
    exact fin e2 hd hT
theorem s_enum (hk : X.K = c.K) (hg : Gl X "enumerate") (hm : X.mg "enumerate" = none) (ha : PE X a (tM c W ma)) (hs : starEach [a] X.env = [(false, eval a X.env)] := by rfl) :
    PI X (.Tuple elts kk tpos) (.Call (.Name "enumerate" p) [a] [] pos) (tI c W (MP.enuS ma)) := by
  refine ⟨fun pins s σ H R I ⟨J, env, S, r, pp⟩ => ?_⟩
  have w := (pa_cons ha pa_nil hs).run pos pins s σ H (fun vs H1 => ∃ v, vs = [v] ∧ ∃ d S1 J1, RSt c J1 env S1 σ H1 ∧ RV c H1 J1 d v ∧ Post c W σ (SrcAt c) H1 J1 R (bd (MP.itemsO d) (fun xs s => .ok (MP.enumL 0 xs, MP.watch d s) s) S1)) I
    (tG.imp (bind (rel' := RV c) r pp) fun x H1 ⟨d, S1, J1, a1, r1, v1, p1⟩ => ⟨x, rfl, d, S1, J1, r1, v1, p1⟩)
  refine Call_ (ld_blt I hg hm boot_enumerate (PyProof.Rows.callWith_type1 (thn w fun us s1 ⟨vs, H1, I1, rv, v, e1, d, S1, J1, r1, v1, p1⟩ => ?_) hs rfl))
  subst e1
  obtain ⟨u, rfl, ru⟩ := rv.one
  obtain ⟨t, ds, rfl, row, p2⟩ := row_of r1.rs v1 p1
  cases ru
  have fin := p2 _ H1 J1 (.refl r1.rs) (src_enum row)
  have fps : ∀ b ∈ [s1.heap.objs.size + 1, s1.heap.objs.size], FpOk X pins H1 b := fun b hb => by
    have hle : s1.heap.objs.size ≤ b := by
      simp only [List.mem_cons, List.not_mem_nil, or_false] at hb
      omega
    exact I1.fpOk hle (I1.hok.fresh hle)
  obtain ⟨xs, h1, _⟩ := row H1 J1 S1 (.refl r1.rs) (by cases d <;> simp [MP.watch])
  cases d with
  | tup _ =>
    have h1 : SqT c.K H1 t xs := h1
    rw [← hk] at h1
    obtain ⟨its, _, pt, _⟩ := I1.tuple h1
    refine call_enumerate_tuple (show s1.heap.IsTuple t its.toArray from pt) fun h' he hit hsz hkk => wpAny_pyIter_enum he ?_
    exact ⟨_, [s1.heap.objs.size + 1, s1.heap.objs.size], _, _, H1, rfl, I1.kept (t' := s1.toks) hkk, turn_enumT t (s1.heap.objs.size + 1) s1.heap.objs.size, ⟨⟨.none, he⟩, hit, Nat.succ_ne_self _⟩, fps, by rw [hk]; exact fin⟩
  | _ =>
    have h1 : SqL c.K H1 t xs := h1
    rw [← hk] at h1
    obtain ⟨its, _, pt, _⟩ := I1.list h1
    refine call_enumerate_list pt.isList fun h' he hit hsz hkk => wpAny_pyIter_enum he ?_
    exact ⟨_, [s1.heap.objs.size + 1, s1.heap.objs.size], _, _, H1, rfl, I1.kept (t' := s1.toks) hkk, turn_enum t (s1.heap.objs.size + 1) s1.heap.objs.size, ⟨⟨.none, he⟩, hit, Nat.succ_ne_self _⟩, fps, by rw [hk]; exact fin⟩
end
end MS
namespace MS
open PySem PySem.Spec PyProof.Rows L2
open MP (Sy D Cn Ob Sto R En bd pu no rz nx LIM)
section
variable {X : Cx} {c : Ct} {W : WX} {pos p tpos : Pos} {a b d e tg : Expr} {es elts : List Expr} {kk : Nat} {ma mb md : MP.E} {ms mk : MP.Es} {σ : L2.St} {H : Hp} {J : Jm} {S : Sto} {x : Str} {kws : List Keyword}
theorem k_nil : PK X [] (tA c W MP.nilA) := ⟨fun pos pins s σ H Q I ⟨J, env, S, r, pp⟩ => pk_nil.run pos pins s σ H Q I (post_pu r.rs pp rfl)⟩
theorem k_cons {nm : Option Str} {kpos : Pos} (ha : PE X e (tM c W ma)) (hr : PK X kws (tA c W mk)) : PK X (⟨nm, e, kpos⟩ :: kws) (tA c W (MP.consA ma mk)) := ⟨fun pos pins s σ H Q I ⟨J, env, S, r, pp⟩ => (pk_cons ha hr).run pos pins s σ H Q I
  (tG.imp (bind (rel' := RV c) r pp) fun x H1 ⟨d, S1, J1, a1, r1, v1, p1⟩ => tG.imp (bind (rel' := RVs c) r1 p1) fun xs H2 ⟨ds, S2, J2, a2, r2, v2, p2⟩ => post_pu r2.rs p2 (.cons (v1.aft a2) v2))⟩
theorem run_kw {CX : CXT} {k n : Nat} {f : Addr} {fd : FuncData} {ps ks : List Str} {sp : Sp} {E : XK} {g : List Value → List Value → List Value} {gV : List V → List V → List V} {pins : List (Addr × Obj)} {s : Shared} {Q : VK} {us ws : List Value} {vs zs : List V} (F : FnOk X.prog X.w X.K X.mg X.base CX k f fd ps sp)
    (hr : Room k X.A) (hb : KBn X.K fd ps n ks g gV) (hx : PassesAt CX X σ E) (I : Inv X pins σ H s) (r : Vals vs us) (rz : Vals zs ws) (l1 : vs.length = n) (l2 : zs.length = ks.length) (h : sp (gV vs zs) H Q E) :
    wpAny (model X.prog X.w) X.A (call (.ref f) us (ks.zip ws)) (EP X pins σ Q) X.xe s := by
  refine wpAny_call (codeAny_mono (F.run X.A X.stack s H ⟨us, ks.zip ws⟩ (g us ws) (gV vs zs) Q E hr I.env0 (hb.to s us ws I.kIn (r.length ▸ l1) (rz.length ▸ l2)) (hb.rel r rz) h) fun res s' hq => ?_)
  cases res with
  | error er => exact hx pins H s er s' I hq
  | ok fl => cases fl with
    | ret u => exact I.after hq
    | _ => exact hq.elim
end
end MS
namespace MS
open PySem PySem.Spec PyProof.Rows L2
open MP (Sy D Cn Ob Sto R En bd pu no rz nx LIM)
abbrev Ct.lam (c : Ct) (x : Fx) : Ct := { c with fx := some x }
section
variable {X : Cx} {c : Ct} {W : WX} {pos p tpos : Pos} {a b d e tg : Expr} {ma mb md : MP.E} {σ : L2.St} {H H1 H' : Hp} {J J1 J' : Jm} {S S1 S' : Sto} {x : Str} {env : En} {y : Fx}
theorem RS.lam (r : RS c H J S) : RS (c.lam y) H J S := RS.xa (c := c) (c' := c.lam y) rfl rfl rfl r
theorem RS.unlam (r : RS (c.lam y) H J S) : RS c H J S := RS.xa (c := c.lam y) (c' := c) rfl rfl rfl r
theorem RV.lam {d : D} {v : V} (r : RV c H J d v) : RV (c.lam y) H J d v := RV.xa (c := c) (c' := c.lam y) rfl d v r
theorem RV.unlam {d : D} {v : V} (r : RV (c.lam y) H J d v) : RV c H J d v := RV.xa (c := c.lam y) (c' := c) rfl d v r
theorem Aft.lam (r : Aft c H J H' J' S) : Aft (c.lam y) H J H' J' S := Aft.xa (c := c) (c' := c.lam y) rfl rfl rfl r
theorem Aft.unlam (r : Aft (c.lam y) H J H' J' S) : Aft c H J H' J' S := Aft.xa (c := c.lam y) (c' := c) rfl rfl rfl r
theorem XdAt.lam {d : Addr} {ns : List Sy} {vs : List D} (h : XdAt c H J d ns vs) : XdAt (c.lam y) H J d ns vs := XdAt.xa (c := c) (c' := c.lam y) rfl h
/-- tables are written, all else stays -/
def Jm.tabs (J : Jm) (H1 : Hp) : Jm := ⟨J.j, fun b => (J.m b ∧ ∃ o, H1 b = some o ∧ PlainO o) ∨ ∃ ps, H1 b = some (.tbl ps), J.n, J.h⟩
theorem aft_tabs (r : RS c H J S) (eN : LamX.ExtN H H1) (T1 : LamX.Tabs c.T H1) : Aft c H J H1 (J.tabs H1) S := by
  have same : ∀ b o, H b = some o → (∀ ps, o ≠ .tbl ps) → H1 b = some o := eN
  have k : Keep H J H1 (J.tabs H1) := fun b o e n => by
    have nt : ∀ ps, o ≠ .tbl ps := fun ps z => n ((r.tt b o e).1 ⟨ps, z⟩)
    have e1 := same b o e nt
    exact ⟨e1, fun z => z.elim (fun w => n w.1) fun ⟨ps, z⟩ => nt ps (Option.some.inj (e1.symm.trans z))⟩
  have ex : Ext J (J.tabs H1) := ⟨Nat.le_refl _, fun _ _ => rfl⟩
  have lsts : ∀ b o, H b = some o → PlainO o → H1 b = some o := fun b o e po => same b o e po.1
  refine ⟨⟨r.n, r.inj, fun i o e => ?_, fun b hb => ?_, fun b hb => ?_, T1, fun b o e => ⟨fun ⟨ps, z⟩ => .inr ⟨ps, by rw [← z]; exact e⟩, fun ⟨k, q, z⟩ m => ?_⟩⟩, ex, k, fun b hb => ?_⟩
  · obtain ⟨h1, h2⟩ := r.ob i o e
    obtain ⟨u, q, po⟩ : ∃ u, H (J.j i) = some u ∧ PlainO u := by
      cases o with
      | mk w cn =>
        cases cn with
        | lst ds => obtain ⟨xs, q, _⟩ := h1; exact ⟨_, q, plain_lst⟩
        | dct _ =>
          obtain ⟨xs, g, _⟩ := h1
          exact ⟨_, g, plain_dt⟩
        | ins kk ns vs => obtain ⟨dx, fs, q, _⟩ := h1; exact ⟨_, q, plain_ins⟩
    have q1 := lsts _ u q po
    exact ⟨RO.mono k ex (q1.trans q.symm) h1, fun z => .inl ⟨h2 z, u, q1, po⟩⟩
  · rcases hb with ⟨_, o, hb, _⟩ | ⟨ps, hb⟩
    · rw [hb]; exact fun z => nomatch z
    · rw [hb]; exact fun z => nomatch z
  · obtain ⟨⟨h1, xs, h2⟩, h3⟩ := r.hd b hb
    have q := lsts b _ h2 plain_lst
    exact ⟨⟨.inl ⟨h1, _, q, plain_lst⟩, xs, q⟩, h3⟩
  · rcases m with ⟨_, u, e1, po⟩ | ⟨ps, e1⟩
    · rw [e] at e1
      cases e1
      exact po.2 k q z
    · rw [e] at e1
      cases e1
      exact LamX.codeO_ne ps z.symm
  · obtain ⟨⟨h1, xs, h2⟩, h3⟩ := r.hd b hb
    exact ⟨(lsts b _ h2 plain_lst).trans h2.symm, hb⟩
/-- the maker's frame, while the def that got the lambda runs -/
theorem RSt.maker {σZ : L2.St} {eZ : En} {SZ : Sto} {JZ : Jm} {HZ : Hp} (hxa : c.xa = none) (hfx : c.fx = none) (r : RSt c J env S σ H) (hy : y.env = env ∧ y.σ = σ) (rz : RSt (c.lam y) JZ eZ SZ σZ HZ) : RSt c JZ env SZ σ HZ :=
  ⟨rz.rs.unlam, r.len, fun i d e => let ⟨v, e1, h⟩ := rz.fl y rfl i d (by rw [hy.1]; exact e); ⟨v, by rw [← hy.2]; exact e1, h.unlam⟩, r.ex, fun x e => (by rw [hxa] at e; cases e), r.fu, fun x e => (by rw [hfx] at e; cases e), fun x e => (by rw [hfx] at e; cases e)⟩
/-- its call, in that def -/
theorem act_run {CXg : CXT} {Eg : XK} {Ng : List Str} {qg : Str} {sg : Scope} {g f c' : Addr} {cdg pm ctv : Value} {params : Arguments} {body : Expr} {scope : Scope} {k : Nat} {nm : Str} {pn pins : List (Addr × Obj)} {xe : Value → Shared → Prop} {s : Shared} {p1 p2 : Pos} {tb : XK → TE}
    (I : Inv X pins σ H s) (L : LamX.LamS X.env.scope scope) (hf : s.heap.get? f = some (PySem.W.kla_obj "<lambda>" (X.env.qual ++ "<lambda>") params body scope (cloFrom X.env.cells scope.names []) pm c' ctv)) (hfn : H f = none) (hfr : f ∉ frs X.stack)
    (hbind : bindArgs (PySem.W.kla_fn "<lambda>" (X.env.qual ++ "<lambda>") params body scope (cloFrom X.env.cells scope.names []) pm (.ref c') ctv) ⟨[], []⟩ = pure [])
    (tk : Takes ((cxOf CXg X.prog X.w X.K X.mg X.base Ng qg sg g cdg X.A X.stack s H Eg).tr pn xe) W) (hr : Room (k + 1) (X.A.deeper (envOfC qg sg s.heap.objs.size g cdg)))
    (hbody : ∀ (A : Around) (outer : List Env) (s : Shared) (H : Hp) (E : XK), Room k (A.deeper (LamX.lamEnv X scope s.heap.objs.size f c')) → PE (LamX.lamCx X A outer s H E scope f c') body (tb E))
    (hN : Ng[0]? = some nm) (hv : Vis sg nm) (hd : (nm == ("__debug__" : Str)) = false) (hcd : (nm == ("__classdict__" : Str)) = false) :
    PE ((cxOf CXg X.prog X.w X.K X.mg X.base Ng qg sg g cdg X.A X.stack s H Eg).tr pn xe) (.Call (.Name nm p1) [] [] p2)
      (fun σZ HZ Q => σZ[0]? = some (some (.ref f)) ∧ HZ c' = some (LamX.CodeO c' (X.env.qual ++ "<lambda>")) ∧ tb (WE W σZ) σ HZ Q) := by
  constructor
  intro pinsZ sZ σZ HZ Q IZ ⟨h0, hc, ht⟩
  have loaded := (pe_var (pos := p1) (i := 0) hN hv hd hcd).run pinsZ sZ σZ HZ (fun v H1 => v = .ref f ∧ H1 = HZ) IZ ⟨.ref f, h0, rfl, rfl⟩
  refine wpAny_Call_Name_kw (thn loaded fun u s1 ⟨v, H1, I1, r1, e1, e2⟩ => ?_)
  subst e1 e2
  cases r1
  have of1 := I1.base.keep f _ hf hfn hfr (fun z => nomatch z)
  obtain ⟨⟨oc, vs, t, hoc, hdc, hvc⟩, _, _⟩ := I1.hok c' _ hc
  have called : codeAny (model X.prog X.w) (X.A.deeper (envOfC qg sg s.heap.objs.size g cdg)) (.call (.ref f) ⟨[], []⟩) (CR (L2.CX X.prog X.w) (envOfC qg sg s.heap.objs.size g cdg :: X.stack) X.prog X.w H1 s1 Q (WE W σZ)) s1 := by
    refine PySem.W.kla_callFunE hr.depth of1 rfl L.co L.gen rfl ⟨c', oc, vs, t, rfl, hoc, hdc, hvc⟩ ?_
    rw [hbind]
    refine wpAny_pure (wpAny_newFunctionEnv (fun z hz => (L.own z hz).2) (fun z hz => absurd hz List.not_mem_nil) (fun h₁ hns hsb => ⟨I1.nolimit.fresh _ hsb, ?_⟩) L.kind)
    have kp : ∀ b o, s1.heap.get? b = some o → h₁.get? b = some o := fun b o e => hsb.extBut b o (Nat.ne_of_lt (Heap.lt_size e)) (Heap.get?_push_of_some _ e)
    have J' := LamX.lam_start2 (E := WE W σZ) (f := f) (c' := c') (tk := s1.toks + ([] : List (Str × Value)).length) I L I1.env0 hr.hd I1.base hns kp
    exact PySem.W.kla_codeExpr (wpAny_mono ((hbody _ _ s1 H1 _ (hr.deeper _)).run [] _ _ H1 Q J' ht) (fun v s' ⟨w', H', J2, rv, q⟩ => ⟨w', H', J2.os, J2.bare, J2.base, J2.hok, rv, q⟩) fun _ _ hq => hq)
  refine PySem.W.callWith_F0 ⟨_, _, _, _, of1⟩ (wpAny_call (codeAny_mono called fun res s' hq => ?_))
  cases res with
  | error er => exact passAt tk σZ pinsZ H1 s1 er s' I1 hq
  | ok fl => cases fl with
    | ret u => exact I1.after hq
    | _ => exact hq.elim
theorem Post.unlam {σ' : L2.St} {W' : WX} {Q : VK} {rr : R D} (h : Post (c.lam y) W σ (RV (c.lam y)) H J Q rr) (hw : ∀ k d H, W k d σ H → W' k d σ' H) : Post c W' σ' (RV c) H J Q rr := by
  cases rr with
  | ok d S' => exact fun v H' J' a q => h v H' J' a.lam q.lam
  | exc k ns vs S' => exact fun H' J' dx fs a e1 n e2 e3 => hw _ _ _ (h H' J' dx fs a.lam e1 n e2 (RVs.xa (c := c) (c' := c.lam y) rfl _ _ e3))
  | bad => exact h
/-- the body of a def that calls its lambda: derived for each lambda -/
def GivesW (P : Program) (w : World) (K : PySem.W.Frag) (mg : Str → Option Value) (base : Heap) (A : Around) (outer : List Env) (c : Ct) (Ng : List Str) (x : Str) (sg : Scope) (g : Addr) (cdg : Value) (bg : List Stmt) (nm : Str) (b : MP.M D → MP.St) : Prop :=
  ∀ (y : Fx) (s : Shared) (H : Hp) (act : MP.M D), y.i = 0 →
  (∀ (W : WX) (pn : List (Addr × Obj)) (xe : Value → Shared → Prop) (p1 p2 : Pos), Takes ((cxOf C8.CX0 P w K mg base Ng x sg g cdg A outer s H C8.E0).tr pn xe) W →
    PE ((cxOf C8.CX0 P w K mg base Ng x sg g cdg A outer s H C8.E0).tr pn xe) (.Call (.Name nm p1) [] [] p2) (tM (c.lam y) W (MP.actE act 0))) →
  PSs (cxOf C8.CX0 P w K mg base Ng x sg g cdg A outer s H C8.E0).nox bg (tS (c.lam y) W0 (b act))
theorem e_lam {x nm : Str} {g kc P : Addr} {k n : Nat} {pg : Arguments} {bg : List Stmt} {sg : Scope} {dV kV doc pm cdv ct oc : Value} {an od : Option Addr} {osl : Array (Option Value)} {Ng : List Str} {params : Arguments} {body : Expr} {scope : Scope} {lpos : Pos} {bm : MP.M D → MP.St}
    (hxa : c.xa = none) (hfx : c.fx = none) (hX : X.K = c.K) (hg : Gl X x) (hm : X.mg x = some (.ref g)) (hk : PySem.W.keepIn X.K (.ref g) = true) (lk : X.K.lookup g = some ⟨oc, od, .func (PySem.W.fnOf x x pg bg sg dV kV doc pm an cdv ct), osl⟩) (hcg : PySem.W.codeIn X.K cdv x = true)
    (hb : L2.Binds X.K (PySem.W.fnOf x x pg bg sg dV kV doc pm an cdv ct) [nm] []) (Sg : FnScope Ng [nm] sg) (hNg : Ng[0]? = some nm) (hnl : Ng.length = n) (hva : Vis sg nm) (hG : GivesW X.prog X.w X.K X.mg X.base X.A X.stack c Ng x sg g cdv bg nm bm)
    (TB : LamX.TabB X.base X.mg kc P) (hcode : X.env.code = .ref kc) (hmT : (P, X.env.qual ++ "<lambda>") ∈ c.T) (hu : ∀ p ∈ c.T, p.1 = P → p.2 = X.env.qual ++ "<lambda>") (hr : Room (k + 2) X.A) (L : LamX.LamS X.env.scope scope) (hdef : defaultsOf params X.env = ([], []))
    (hbind : ∀ (q : Str) (cl : List (Str × Addr)) (pm cv ctv : Value), bindArgs (PySem.W.kla_fn "<lambda>" q params body scope cl pm cv ctv) ⟨[], []⟩ = pure [])
    (hbody : ∀ (A : Around) (outer : List Env) (s : Shared) (H : Hp) (E : XK) (f c' : Addr), Room k (A.deeper (LamX.lamEnv X scope s.heap.objs.size f c')) → PE (LamX.lamCx X A outer s H E scope f c') body (tM c (fun k d _ H => E k d H) ma))
    (hdb : (x == ("__debug__" : Str)) = false := by decide) (hd : (nm == ("__debug__" : Str)) = false := by decide) (hcd : (nm == ("__classdict__" : Str)) = false := by decide) :
    PE X (.Call (.Name x p) [.Lambda params body scope lpos] [] pos) (tM c W (MP.lamE (MP.fnL n bm) ma)) := by
  refine ⟨fun pins s σ H Q I ⟨J, env, S, r, pp⟩ => ?_⟩
  refine wpAny_Call_Name_kw (ld_glob I hg hm ?_ hdb)
  refine PySem.W.callWith_K (h₀ := X.base) I.ok.mod.kin hk ?_ (by rfl) (by rfl)
  show wpAny _ _ (spliced ((false, eval (.Lambda params body scope lpos) X.env) :: backTo pos (starEach [] X.env))) _ _ s
  refine Calls.spliced_cons (LamX.lam_make2 I TB hcode hmT hu r.rs.tb hdef (L.has I.ok) fun f c' pm' ctv H1 s' I1 eN T1 hf hfn hfr hco => Calls.spliced_nil ⟨I1.kIn, ?_⟩)
  have af := aft_tabs r.rs eN T1
  have r1 := r.aft af
  have p1 : Post c W σ (RV c) H1 (J.tabs H1) Q (nx (MP.fnL n bm (ma env)) S) := Post.weak af pp
  generalize hy : (⟨0, f, c', X.env.qual ++ "<lambda>", env, σ⟩ : Fx) = y
  have ran : codeAny (model X.prog X.w) X.A (.call (.ref g) ⟨[.ref f], []⟩) (CR C8.CX0 X.stack X.prog X.w H1 s' Q C8.E0) s' := by
    refine LamX.run_ofS (N := Ng) (ps := [nm]) (us := [.ref f]) (vs := [.ref f]) lk hcg Sg hr I1.env0 (hb s' [.ref f] I1.kIn rfl) (.cons rfl .nil) rfl fun hr' => ⟨_, (hG y s' H1 (ma env) (by rw [← hy]) fun W' pn xe q1 q2 tk => ?_).nox, ?_⟩
    · refine pe_imp (act_run (tb := fun E => tM c (fun k d _ H => E k d H) ma) I1 L hf hfn hfr (hbind _ _ _ _ _) tk hr' (fun A outer s H E hr2 => hbody A outer s H E f c' hr2) hNg hva hd hcd) fun σZ HZ Q' ⟨JZ, eZ, SZ, rz, pz⟩ => ?_
      unfold MP.actE at pz
      cases e0 : eZ[0]? with
      | none => rw [e0] at pz; exact pz.elim
      | some sl =>
        rw [e0] at pz
        cases sl <;> try exact pz.elim
        obtain ⟨x0, e1, _, e2⟩ := rz.fu 0 e0
        cases e1
        obtain ⟨e3, _⟩ := rz.fk y rfl
        refine ⟨by rw [e2, ← hy], ?_, JZ, env, SZ, RSt.maker hxa hfx r ⟨by rw [← hy], by rw [← hy]⟩ rz, Post.unlam pz fun _ _ _ h => h⟩
        rw [← hy] at e3
        exact e3
    · have hn1 : 1 ≤ n := by
        rw [← hnl]
        cases Ng with
        | nil => cases hNg
        | cons _ _ => exact Nat.le_add_left _ _
      refine ⟨J.tabs H1, .fu :: List.replicate (n - 1) .un, S, ⟨r1.rs.lam, ?_, fun i d e => ?_, fun i e => ?_, fun x e => ?_, fun i e => ?_, fun x e => ?_, fun x e i d e2 => ?_⟩, ?_⟩
      · show ([V.ref f].map some ++ List.replicate (Ng.length - [V.ref f].length) none).length = _
        rw [hnl]
        simp
      · cases i with
        | zero => simp at e
        | succ i =>
          rw [List.getElem?_cons_succ, List.getElem?_replicate] at e
          split at e <;> cases e
      · cases i with
        | zero => simp at e
        | succ i =>
          rw [List.getElem?_cons_succ, List.getElem?_replicate] at e
          split at e <;> cases e
      · rw [show (c.lam y).xa = c.xa from rfl, hxa] at e
        cases e
      · cases i with
        | zero => exact ⟨y, rfl, by rw [← hy], by rw [← hy]; rfl⟩
        | succ i =>
          rw [List.getElem?_cons_succ, List.getElem?_replicate] at e
          split at e <;> cases e
      · cases e
        rw [← hy]
        exact ⟨hco, (r1.rs.tt _ _ hco).2 ⟨_, _, rfl⟩⟩
      · cases e
        rw [← hy] at e2 ⊢
        obtain ⟨v, q1, q2⟩ := r1.loc i d e2
        exact ⟨v, q1, q2.lam⟩
      · unfold nx MP.fnL at p1
        cases q : bm (ma env) (.fu :: List.replicate (n - 1) .un) S with
        | nx e s => rw [q] at p1; exact fun σ' H' J' a _ => p1 .non H' J' a.unlam rfl
        | rt d s => rw [q] at p1; exact fun v H' J' a h => p1 v H' J' a.unlam h.unlam
        | bk _ _ => rw [q] at p1; exact p1.elim
        | ct _ _ => rw [q] at p1; exact p1.elim
        | ex _ _ _ _ _ => rw [q] at p1; exact p1.elim
        | bad => rw [q] at p1; exact p1.elim
  refine wpAny_call (codeAny_mono ran fun res s2 hq => ?_)
  cases res with
  | error er => exact (show False from hq).elim
  | ok fl => cases fl with
    | ret u => exact I1.after hq
    | _ => exact False.elim hq
end
end MS
namespace MS
open PySem PySem.Spec PyProof.Rows L2
open MP (Sy D Cn Ob Sto R En bd pu no rz nx LIM)
open He (ga ma fAd Fa DefD)
structure Mo (fa : List Fa) (fn : List DefD) (ex : PySem.W.Frag → Bool) (K : PySem.W.Frag) (mg : Str → Option Value) : Prop where
  says : He.SaysD fa fn K
  more : ex K = true
  names : ∃ h : Heap, K.In h ∧ h.Ns mainGlobals mg
section
variable {fa : List Fa} {fn : List DefD} {ex : PySem.W.Frag → Bool} {K : PySem.W.Frag} {mg : Str → Option Value}
theorem Mo.glo (T : Mo fa fn ex K mg) (i : Nat) {x : Str} (h : fa[i]? = some (.glo x) := by rfl) : mg x = some (.ref (ga K x)) := let ⟨_, X, G⟩ := T.names; He.glo_ok X G (T.says.fact i h)
theorem Mo.fr (T : Mo fa fn ex K mg) (i : Nat) {x : Str} (h : fa[i]? = some (.free x) := by rfl) : mg x = none := let ⟨_, X, G⟩ := T.names; He.free_ok X G (T.says.fact i h)
theorem Mo.int (T : Mo fa fn ex K mg) (i : Nat) {x : Str} {n : Int} (h : fa[i]? = some (.int x n) := by rfl) : ∃ t, mg x = some (.int n t) := let ⟨_, X, G⟩ := T.names; He.int_ok X G (T.says.fact i h)
theorem Mo.def_ (T : Mo fa fn ex K mg) (i : Nat) {d : DefD} (h : fn[i]? = some d := by rfl) : ∃ fd, FunD K d.name d.qual d.params d.body d.scope (d.dvs K) (d.kws K) (fAd K d.at_) fd := T.says.def_ i h
end
/-- a constant of the module -/
theorem e_gint {X : Cx} {c : Ct} {W : WX} {pos : Pos} {x : Str} {n : Int} (hm : ∃ t, X.mg x = some (.int n t)) (hg : Gl X x := by rfl) (hd : (x == ("__debug__" : Str)) = false := by decide) : PE X (.Name x pos) (tM c W (MP.cE (.int n))) := by
  obtain ⟨t, e⟩ := hm
  exact e_glob (d := .int n) hg e ⟨.int n, ⟨t, rfl⟩, fun _ _ => rfl⟩ hd
/-- the def x of the module does g -/
structure Okd (P : Program) (w : World) (K : PySem.W.Frag) (mg : Str → Option Value) (base : Heap) (c : Ct) (k : Nat) (x : Str) (st : Stmt) (ps : List Str) (g : List D → MP.M D) : Prop where
  m : mg x = some (.ref (ga K x))
  f : ∃ fd, FunD K x x (defArgs st) (defBody st) (defScope st) [] [] (ga K x) fd ∧ FnOk P w K mg base (L2.CX P w) k (ga K x) fd ps (spI c g) ∧ Binds K fd ps []
section
variable {P : Program} {w : World} {K : PySem.W.Frag} {mg : Str → Option Value} {base : Heap} {c : Ct}
theorem ok_fn {st : Stmt} {x : Str} {fd : FuncData} {N ps : List Str} {k n p : Nat} {b : MP.St} (hxa : c.xa = none) (hfx : c.fx = none) (F : FunD K x x (defArgs st) (defBody st) (defScope st) [] [] (ga K x) fd) (S : FnScope N ps (defScope st)) (hn : N.length = n) (hp : ps.length = p)
    (hb : ∀ (cdv : Value) (A : Around) (outer : List Env) (s : Shared) (H : Hp) (E : XK), cdv = .ref (He.codeOf K (x, none)) → Room k (A.deeper (envOfC x (defScope st) s.heap.objs.size (ga K x) cdv)) → PSs (cxOf (L2.CX P w) P w K mg base N x (defScope st) (ga K x) cdv A outer s H E) (defBody st) (tS c (fun k d _ H => E k d H) b)) :
    FnOk P w K mg base (L2.CX P w) (k + 1) (ga K x) fd ps (spI c (MP.fn p n b)) := by
  obtain ⟨oc, od, dV, kV, doc, pm, an, cdv, ct, osl, rfl, lk, hcd, _, _⟩ := F.ex
  obtain ⟨ca, ec⟩ := He.codeIn_ref hcd
  have hco : cdv = .ref (He.codeOf K (x, none)) := by rw [He.codeOf_eq (K := K) (p := (x, none)) lk ec]; exact ec
  refine fn_of lk hcd S (fun vs H Q E ⟨J, S0, ds, rs, hv, pp⟩ => ?_) (fun A outer s H vs Q E hr ⟨J, S0, ds, rs, hv, pp⟩ => ⟨_, hb cdv A outer s H E hco hr, ?_⟩)
  · unfold MP.fn at pp
    split at pp
    · rename_i e
      rw [← hv.length, e, hp]
    · exact pp.elim
  · unfold MP.fn at pp
    split at pp
    · rename_i e
      have hl : vs.length = p := by rw [← hv.length, e]
      refine ⟨J, ds.map .va ++ List.replicate (n - ds.length) .un, S0, ⟨rs, ?_, fun i d e2 => ?_, fun i e2 => ?_, fun y e2 => ?_, fun i e2 => ?_, fun y e2 => ?_, fun y e2 => ?_⟩, ?_⟩
      · show (vs.map some ++ List.replicate (N.length - vs.length) none).length = _
        rw [hn]
        simp [hv.length]
      · have e3 : (vs.map some ++ List.replicate (N.length - vs.length) none)[i]? = (L2.start N vs)[i]? := rfl
        rcases Nat.lt_or_ge i ds.length with q | q
        · rw [List.getElem?_append_left (by simpa using q), List.getElem?_map] at e2
          cases e4 : ds[i]? with
          | none => rw [e4] at e2; cases e2
          | some d' =>
            rw [e4] at e2
            cases e2
            obtain ⟨v, e5, h5⟩ := hv.get e4
            refine ⟨v, ?_, h5⟩
            rw [← e3, List.getElem?_append_left (by rw [List.length_map, ← hv.length]; exact q), List.getElem?_map, e5]
            rfl
        · rw [List.getElem?_append_right (by simpa using q), List.getElem?_replicate] at e2
          split at e2 <;> cases e2
      · rcases Nat.lt_or_ge i ds.length with q | q
        · rw [List.getElem?_append_left (by simpa using q), List.getElem?_map] at e2
          cases e4 : ds[i]? with
          | none => rw [e4] at e2; cases e2
          | some d' => rw [e4] at e2; cases e2
        · rw [List.getElem?_append_right (by simpa using q), List.getElem?_replicate] at e2
          split at e2 <;> cases e2
      · rw [hxa] at e2; cases e2
      · rcases Nat.lt_or_ge i ds.length with q | q
        · rw [List.getElem?_append_left (by simpa using q), List.getElem?_map] at e2
          cases e4 : ds[i]? with
          | none => rw [e4] at e2; cases e2
          | some d' => rw [e4] at e2; cases e2
        · rw [List.getElem?_append_right (by simpa using q), List.getElem?_replicate] at e2
          split at e2 <;> cases e2
      · rw [hfx] at e2; cases e2
      · rw [hfx] at e2; cases e2
      · cases q : b (ds.map .va ++ List.replicate (n - ds.length) .un) S0 with
        | nx e s => simp only [q] at pp; exact fun σ' H' J' a _ => pp .non H' J' a rfl
        | rt d s => simp only [q] at pp; exact fun v H' J' a h => pp v H' J' a h
        | bk _ _ => simp only [q] at pp; exact pp.elim
        | ct _ _ => simp only [q] at pp; exact pp.elim
        | ex e k ns vs s => simp only [q] at pp; exact fun σ' H' J' dx a r ⟨fs, h1, h2, h3, h4⟩ => pp H' J' dx fs a h1 h2 h3 h4
        | bad => simp only [q] at pp; exact pp.elim
    · exact pp.elim
theorem okd_of {st : Stmt} {x : Str} {N ps : List Str} {k n p : Nat} {b : MP.St} (hxa : c.xa = none) (hfx : c.fx = none) (hm : mg x = some (.ref (ga K x))) (F : ∃ fd, FunD K x x (defArgs st) (defBody st) (defScope st) [] [] (ga K x) fd) (S : FnScope N ps (defScope st)) (hn : N.length = n) (hp : ps.length = p)
    (hbi : ∀ (kV doc pm : Value) (an : Option Addr) (cdv ct : Value) (us : List Value), us.length = ps.length → bindArgs (PySem.W.fnOf x x (defArgs st) (defBody st) (defScope st) .none kV doc pm an cdv ct) ⟨us, []⟩ = pure (ps.zip us))
    (hb : ∀ (cdv : Value) (A : Around) (outer : List Env) (s : Shared) (H : Hp) (E : XK), cdv = .ref (He.codeOf K (x, none)) → Room k (A.deeper (envOfC x (defScope st) s.heap.objs.size (ga K x) cdv)) → PSs (cxOf (L2.CX P w) P w K mg base N x (defScope st) (ga K x) cdv A outer s H E) (defBody st) (tS c (fun k d _ H => E k d H) b)) :
    Okd P w K mg base c (k + 1) x st ps (MP.fn p n b) := by
  obtain ⟨fd, F⟩ := F
  exact ⟨hm, fd, F, ok_fn hxa hfx F S hn hp hb, F.bindsN hbi⟩
end
section
variable {X : Cx} {c : Ct} {W : WX} {pos p : Pos} {e : Expr} {es : List Expr} {ms : MP.Es} {x : Str} {st : Stmt} {ps : List Str} {g : List D → MP.M D} {k : Nat}
theorem e_cal (G : Okd X.prog X.w X.K X.mg X.base c k x st ps g) (hr : Room k X.A) (tk : Takes X W) (ha : PA X (e :: es) (tA c W ms)) (hg : Gl X x := by rfl) (hdb : (x == ("__debug__" : Str)) = false := by decide) (he : starEach (e :: es) X.env = (false, eval e X.env) :: starEach es X.env := by rfl)
    (hpl : (backTo pos (starEach es X.env)).any (·.1) = false := by rfl) : PE X (.Call (.Name x p) (e :: es) [] pos) (tM c W (MP.biE g ms)) := by
  obtain ⟨fd, F, G1, hb⟩ := G.f
  exact e_ca (F := fun _ => g) (n := 0) G1 hr hg G.m F.kp hb tk ha hdb he hpl
end
/-- a def's context takes what it lets out -/
theorem tk_of {P : Program} {w : World} {K : PySem.W.Frag} {mg : Str → Option Value} {base : Heap} {N : List Str} {q : Str} {sc : Scope} {f : Addr} {cd : Value} {A : Around} {outer : List Env} {s : Shared} {H : Hp} {E : XK} :
    Takes (cxOf (L2.CX P w) P w K mg base N q sc f cd A outer s H E) (fun k d _ H => E k d H) := takes_of rfl rfl rfl rfl
theorem po_of {P : Program} {w : World} {K : PySem.W.Frag} {mg : Str → Option Value} {base : Heap} {N : List Str} {q : Str} {sc : Scope} {f : Addr} {cd : Value} {A : Around} {outer : List Env} {s : Shared} {H : Hp} {E : XK} :
    PassesOwn (model (cxOf (L2.CX P w) P w K mg base N q sc f cd A outer s H E).prog (cxOf (L2.CX P w) P w K mg base N q sc f cd A outer s H E).w) (cxOf (L2.CX P w) P w K mg base N q sc f cd A outer s H E).A (cxOf (L2.CX P w) P w K mg base N q sc f cd A outer s H E).env (cxOf (L2.CX P w) P w K mg base N q sc f cd A outer s H E).xe := passes_of rfl
theorem tk_lam {X : Cx} {A : Around} {outer : List Env} {s : Shared} {H : Hp} {E : XK} {scope : Scope} {f c' : Addr} : Takes (LamX.lamCx X A outer s H E scope f c') (fun k d _ H => E k d H) := takes_of rfl rfl rfl rfl
end MS
namespace MS
open PySem PySem.Spec PyProof.Rows L2
open MP (Sy D Cn Ob Sto R En bd pu no rz nx LIM)
open He (ga ma fAd Fa DefD)
section
variable {X : Cx} {c : Ct} {W : WX} {pos : Pos} {a b : Expr} {ma mb : MP.E}
theorem o_lt : OpR X (compareOp .Lt) (fun x y H Q => (rI0 fun i j => .bl (decide (i < j))) x y H Q ∨ (∃ i j, x = .str i ∧ y = .str j ∧ Q (.bl (decide (i.cps.toList < j.cps.toList))) H)) := .or op_lt op_lt_str
theorem o_le : OpR X (compareOp .LtE) (fun x y H Q => (rI0 fun i j => .bl (decide (i ≤ j))) x y H Q ∨ (∃ i j, x = .str i ∧ y = .str j ∧ Q (.bl (decide (i.cps.toList ≤ j.cps.toList))) H)) :=
  .or op_le fun pins s σ H x y v u Q I rx ry ⟨i, j, e1, e2, q⟩ => op_le_str pins s σ H x y v u Q I rx ry ⟨i, j, e1, e2, by
    have e : (!decide (j.cps.toList < i.cps.toList)) = decide (i.cps.toList ≤ j.cps.toList) := by
      rw [← decide_not]
      rfl
    rw [e]
    exact q⟩
end
/-- a op b op' c as a test -/
theorem t_ch {X : Cx} {c : Ct} {W : WX} {pos : Pos} {a b d : Expr} {ma mb md : MP.E} {op op' : CmpOp} {o o' : D → D → MP.M D} {r r' : R2} (ho : OpR X (compareOp op) r) (ho' : OpR X (compareOp op') r') (im : Im2 c W o r) (im' : Im2 c W o' r') (ha : PE X a (tM c W ma)) (hb : PE X b (tM c W mb)) (hd : PE X d (tM c W md))
    (hm : lastMarks [op, op'] [b, d] = false := by with_unfolding_all rfl) : PT X (.Compare a [op, op'] [b, d] pos) (tT c W (MP.tb (MP.chE o o' ma mb md))) :=
  pt_imp (pt_chain ho ho' ha hb hd hm) fun σ H Q h => ch_read im im' (tb_read h)
theorem pt_w {X : Cx} {e : Expr} {t : TT} (h : PW X e t) : PT X e t := h.pt
def nth (ns : List Str) (k : Nat) : Str := ns.getD k (ns.headD "")
def nthB (bs : List Bool) (k : Nat) : Bool := bs.getD k (bs.headD false)
def exmB (K : PySem.W.Frag) (ns : List Str) (y : Str) (bs : List Bool) : Bool := decide (ns.length = bs.length) && (!ns.isEmpty && (ns.zip bs).all fun p => decide (PySem.W.exmOne K (.ref (ga K p.1)) (.ref (ga K y)) = some p.2))
theorem nth_mem {ns : List Str} (h : ns ≠ []) (k : Nat) : nth ns k ∈ ns := by
  unfold nth
  rcases Nat.lt_or_ge k ns.length with q | q
  · rw [List.getD_eq_getElem?_getD, List.getElem?_eq_getElem q]
    exact List.getElem_mem q
  · rw [List.getD_eq_getElem?_getD, List.getElem?_eq_none q]
    cases ns with
    | nil => exact absurd rfl h
    | cons a r => exact List.mem_cons_self
theorem exm_at {K : PySem.W.Frag} {ns : List Str} {y : Str} {bs : List Bool} (h : exmB K ns y bs = true) (k : Nat) : PySem.W.exmOne K (.ref (ga K (nth ns k))) (.ref (ga K y)) = some (nthB bs k) := by
  obtain ⟨h1, h⟩ := He.ba h
  obtain ⟨h2, h3⟩ := He.ba h
  have hl := of_decide_eq_true h1
  have get : ∀ i, i < ns.length → PySem.W.exmOne K (.ref (ga K (ns.getD i (ns.headD "")))) (.ref (ga K y)) = some (bs.getD i (bs.headD false)) := fun i hi => by
    have hb : i < bs.length := by omega
    have hz : i < (ns.zip bs).length := by rw [List.length_zip]; omega
    have m := List.all_eq_true.mp h3 _ (List.getElem_mem hz)
    rw [List.getElem_zip] at m
    rw [List.getD_eq_getElem?_getD, List.getElem?_eq_getElem hi, List.getD_eq_getElem?_getD, List.getElem?_eq_getElem hb]
    exact of_decide_eq_true m
  unfold nth nthB
  rcases Nat.lt_or_ge k ns.length with q | q
  · exact get k q
  · cases ns with
    | nil => simp at h2
    | cons x r =>
      cases bs with
      | nil => simp at hl
      | cons b t =>
        have g0 := get 0 (Nat.succ_pos _)
        rw [List.getD_eq_getElem?_getD, List.getElem?_eq_none q, List.getD_eq_getElem?_getD, List.getElem?_eq_none (by omega)]
        exact g0
section
variable {X : Cx} {c : Ct} {W : WX} {pos pos2 p : Pos} {e : Expr} {ma : MP.E} {x y wS fS : Str} {k : Nat} {w f : Sy}
/-- name = [..], kept as a value -/
theorem s_setCf (i : Nat) {y : Str} {py : Pos} {elt iter tg : Expr} {ifs : List Expr} {scope : Scope} {spos : Pos} {own : List (Str × Nat)} {src : MP.Src} {tgm : MP.Tg} {t : MP.T} {mm : MP.E} (hc : X.calm = true) (hN : X.N.Nodup) (ok : BlkOk X.N X.env.scope scope own) (hi : PI X tg iter (tI c W src)) (hin : ∀ i ∈ Tg.ids tgm, i ∈ own.map (·.2))
    (hg : ∀ (s : Shared) (H : Hp) (C : Addr) (cl : List (Str × Addr)) (fp : List Addr), PG (X.blk s H scope (compEnvC scope cl C X.env) fp) tg (gT c tgm)) (ht : ∀ (s : Shared) (H : Hp) (C : Addr) (cl : List (Str × Addr)) (fp : List Addr), PTs (X.blk s H scope (compEnvC scope cl C X.env) fp) ifs (tT c W0 t))
    (he : ∀ (s : Shared) (H : Hp) (C : Addr) (cl : List (Str × Addr)) (fp : List Addr), PE (X.blk s H scope (compEnvC scope cl C X.env) fp) elt (tM c W0 mm)) (hk : X.env.scope.kind = .function := by rfl) (hy : X.N[i]? = some y := by rfl) (hyl : X.env.scope.names.lookup y = some .local := by rfl)
    (hl : (py.line == pos.line) = true := by rfl) (ha : (scope.names.any fun (n, k) => n == y && (k == .local || k == .cell)) = false := by rfl) (hs : ∀ x, foldedSetIterable iter X.env x = pure x := by intro _; rfl) :
    PS X (.Assign [.Name y py] (.ListComp elt [⟨tg, iter, ifs, 0⟩] scope pos) spos) (tS c W (MP.setS i (MP.frzE (MP.cmpF src tgm t mm (own.map (·.2)))))) :=
  ps_imp (ps_setLc hc hN hy hyl (sw_true hk hyl hl ha) hi ok hg ht he hs) fun Dd σ H ⟨J, env, S, r, pp⟩ => by
    refine cmp_lc (c := c) (W := W) (src := src) (tg := tgm) (t := t) (elt := mm) hin ⟨J, env, S, r, ?_⟩
    unfold MP.setS MP.ev MP.frzE bd at pp
    cases q : MP.cmpF src tgm t mm (own.map (·.2)) env S with
    | ok ds S' =>
      simp only [q] at pp
      intro a xs H' J' af hm nh hj hl hv
      have af2 := af.fix hl nh hj
      exact pp _ H' (J'.fix a) af2 ((r.aft af2).set ⟨a, xs, rfl, .inl ⟨.inl hl, fun z => z.2 rfl⟩, hv.fix⟩)
    | exc k ns vs S' =>
      simp only [q] at pp
      exact fun H' J' dx fs af e1 n e2 e3 => pp σ H' J' dx af (r.aft af) ⟨fs, e1, n, e2, e3⟩
    | bad => simp only [q] at pp; exact pp
/-- a def that takes a lambda -/
theorem e_lamD {nm : Str} {kc P : Addr} {st : Stmt} {n : Nat} {Ng : List Str} {params : Arguments} {body : Expr} {scope : Scope} {lpos : Pos} {bm : MP.M D → MP.St} (hxa : c.xa = none) (hfx : c.fx = none) (hX : X.K = c.K) (hm : X.mg x = some (.ref (ga X.K x))) (F : ∃ fd, FunD X.K x x (defArgs st) (defBody st) (defScope st) [] [] (ga X.K x) fd)
    (Sg : FnScope Ng [nm] (defScope st)) (hNg : Ng[0]? = some nm) (hnl : Ng.length = n) (hva : Vis (defScope st) nm) (hG : ∀ cdv, GivesW X.prog X.w X.K X.mg X.base X.A X.stack c Ng x (defScope st) (ga X.K x) cdv (defBody st) nm bm)
    (hbi : ∀ (kV doc pm : Value) (an : Option Addr) (cdv ct : Value) (us : List Value), us.length = ([nm] : List Str).length → bindArgs (PySem.W.fnOf x x (defArgs st) (defBody st) (defScope st) .none kV doc pm an cdv ct) ⟨us, []⟩ = pure (([nm] : List Str).zip us))
    (TB : LamX.TabB X.base X.mg kc P) (hcode : X.env.code = .ref kc) (hmT : (P, X.env.qual ++ "<lambda>") ∈ c.T) (hu : ∀ p ∈ c.T, p.1 = P → p.2 = X.env.qual ++ "<lambda>") (hr : Room (k + 2) X.A) (L : LamX.lamSB X.env.scope scope = true)
    (hbody : ∀ (A : Around) (outer : List Env) (s : Shared) (H : Hp) (E : XK) (f c' : Addr), Room k (A.deeper (LamX.lamEnv X scope s.heap.objs.size f c')) → PE (LamX.lamCx X A outer s H E scope f c') body (tM c (fun k d _ H => E k d H) ma))
    (hdef : defaultsOf params X.env = ([], []) := by rfl) (hbind : ∀ (q : Str) (cl : List (Str × Addr)) (pm cv ctv : Value), bindArgs (PySem.W.kla_fn "<lambda>" q params body scope cl pm cv ctv) ⟨[], []⟩ = pure [] := by intro _ _ _ _ _; rfl) (hg : Gl X x := by rfl)
    (hdb : (x == ("__debug__" : Str)) = false := by decide) (hd : (nm == ("__debug__" : Str)) = false := by decide) (hcd : (nm == ("__classdict__" : Str)) = false := by decide) :
    PE X (.Call (.Name x p) [.Lambda params body scope lpos] [] pos) (tM c W (MP.lamE (MP.fnL n bm) ma)) := by
  obtain ⟨fd, F⟩ := F
  have hb := F.bindsN hbi
  obtain ⟨oc, od, dV, kV, doc, pm, an, cdv, ct, osl, rfl, lk, hcd', _, _⟩ := F.ex
  exact e_lam hxa hfx hX hg hm F.kp lk hcd' hb Sg hNg hnl hva (hG cdv) TB hcode hmT hu hr (LamX.lamS_by L) hdef hbind hbody hdb hd hcd
/-- name = [..], a list that changes -/
theorem s_setCn (i : Nat) {y : Str} {py : Pos} {elt iter tg : Expr} {ifs : List Expr} {scope : Scope} {spos : Pos} {own : List (Str × Nat)} {src : MP.Src} {tgm : MP.Tg} {t : MP.T} {mm : MP.E} (hc : X.calm = true) (hN : X.N.Nodup) (ok : BlkOk X.N X.env.scope scope own) (hi : PI X tg iter (tI c W src)) (hin : ∀ i ∈ Tg.ids tgm, i ∈ own.map (·.2))
    (hg : ∀ (s : Shared) (H : Hp) (C : Addr) (cl : List (Str × Addr)) (fp : List Addr), PG (X.blk s H scope (compEnvC scope cl C X.env) fp) tg (gT c tgm)) (ht : ∀ (s : Shared) (H : Hp) (C : Addr) (cl : List (Str × Addr)) (fp : List Addr), PTs (X.blk s H scope (compEnvC scope cl C X.env) fp) ifs (tT c W0 t))
    (he : ∀ (s : Shared) (H : Hp) (C : Addr) (cl : List (Str × Addr)) (fp : List Addr), PE (X.blk s H scope (compEnvC scope cl C X.env) fp) elt (tM c W0 mm)) (hk : X.env.scope.kind = .function := by rfl) (hy : X.N[i]? = some y := by rfl) (hyl : X.env.scope.names.lookup y = some .local := by rfl)
    (hl : (py.line == pos.line) = true := by rfl) (ha : (scope.names.any fun (n, k) => n == y && (k == .local || k == .cell)) = false := by rfl) (hs : ∀ x, foldedSetIterable iter X.env x = pure x := by intro _; rfl) :
    PS X (.Assign [.Name y py] (.ListComp elt [⟨tg, iter, ifs, 0⟩] scope pos) spos) (tS c W (MP.setS i (MP.newE (MP.cmpF src tgm t mm (own.map (·.2)))))) := s_setC i hc hN ok hi hin hg ht he hk hy hyl hl ha hs
theorem kl_nil {e : En} {S S' : Sto} {ds : List D} (h : MP.nilA e S = .ok ds S') : ds.length = 0 := by cases h; rfl
theorem kl_cons {n : Nat} {m : MP.E} {r : MP.Es} (hr : ∀ e S ds S', r e S = .ok ds S' → ds.length = n) : ∀ e S ds S', MP.consA m r e S = .ok ds S' → ds.length = n + 1 := fun e S ds S' h => by
  unfold MP.consA bd at h
  cases q : m e S with
  | ok d S1 =>
    rw [q] at h
    simp only at h
    cases q2 : r e S1 with
    | ok xs S2 =>
      rw [q2] at h
      cases h
      rw [List.length_cons, hr _ _ _ _ q2]
    | exc _ _ _ _ => rw [q2] at h; cases h
    | bad => rw [q2] at h; cases h
  | exc _ _ _ _ => rw [q] at h; cases h
  | bad => rw [q] at h; cases h
end
/-- one table, known by where it stands -/
theorem hu_at {T : List (Addr × Str)} {P : Addr} {q : Str} (h : (T.map (·.1)).Nodup) (hm : (P, q) ∈ T) : ∀ p ∈ T, p.1 = P → p.2 = q := fun p hp e => by
  induction T with
  | nil => cases hp
  | cons t r ih =>
    rw [List.map_cons, List.nodup_cons] at h
    rcases List.mem_cons.mp hm with e1 | m1 <;> rcases List.mem_cons.mp hp with e2 | m2
    · rw [e2, ← e1]
    · exact absurd (by rw [← e1]; show P ∈ r.map (·.1); rw [← e]; exact List.mem_map.mpr ⟨p, m2, rfl⟩) h.1
    · exact absurd (by rw [← e2, e]; exact List.mem_map.mpr ⟨_, m1, rfl⟩) h.1
    · exact ih h.2 m1 m2
theorem rvs_ints {c : Ct} {H : Hp} {J : Jm} : ∀ ns : List Int, RVs c H J (ns.map .int) (ns.map V.int)
  | [] => .nil
  | _ :: r => .cons rfl (rvs_ints r)
/-- the law's start: the script, the empty tables -/
theorem law_start {c : Ct} {H : Hp} {a : Addr} {ns : List Int} {g : List D → MP.M D} (hT : ∀ p ∈ c.T, H p.1 = some (.tbl #[])) (hS : SqL c.K H a (ns.map V.int)) (hg : ∃ S', g [.lst (ns.map .int)] [] = .ok (.bl true) S') :
    spI c g [.ref a] H (fun v _ => v = .bl true) (fun _ _ _ => False) := by
  obtain ⟨S', hg⟩ := hg
  refine ⟨⟨fun _ => 0, fun b => ∃ ps, H b = some (.tbl ps), 0, fun _ => False⟩, [], [.lst (ns.map .int)], ⟨rfl, fun k l h => absurd h (Nat.not_lt_zero _), fun k o e => (by simp at e), fun b ⟨ps, e⟩ => (by rw [e]; exact fun z => nomatch z), fun b h => h.elim, fun p hp => .nil (hT p hp), fun b o e => ⟨fun ⟨ps, z⟩ => ⟨ps, by rw [← z]; exact e⟩, fun ⟨k, q, z⟩ ⟨ps, e2⟩ => ?_⟩⟩, .cons ⟨a, ns.map V.int, rfl, ?_, ?_⟩ .nil, ?_⟩
  · rw [e] at e2
    cases e2
    exact LamX.codeO_ne ps z.symm
  · rcases hS with h | h
    · refine .inl ⟨h, fun ⟨ps, e⟩ => ?_⟩
      rcases h with h | ⟨o, h⟩ <;> rw [h] at e <;> cases e
    · exact .inr h
  · exact rvs_ints ns
  · rw [hg]
    exact fun v H' J' _ h => h
theorem cx_no {P : Program} {w : World} {H : Hp} {s : Shared} {e : Value} {s' : Shared} (h : L2.CX P w [] H s (fun _ _ _ => False) e s') : False := by
  obtain ⟨_, _, _, _, _, _, _, _, _, _, _, _, z⟩ := h
  exact z
theorem fn_okd {P : Program} {w : World} {K : PySem.W.Frag} {mg : Str → Option Value} {base : Heap} {c : Ct} {k : Nat} {x : Str} {st : Stmt} {ps : List Str} {g : List D → MP.M D} {fd : FuncData} (G : Okd P w K mg base c k x st ps g) (F : FunD K x x (defArgs st) (defBody st) (defScope st) [] [] (ga K x) fd) :
    FnOk P w K mg base (L2.CX P w) k (ga K x) fd ps (spI c g) := by
  obtain ⟨fd', F', h, _⟩ := G.f
  obtain ⟨_, _, _, _, _, _, _, _, _, _, _, lk, _⟩ := F.ex
  obtain ⟨_, _, _, _, _, _, _, _, _, _, _, lk', _⟩ := F'.ex
  rw [lk] at lk'
  have e : fd = fd' := by injection lk' with e; injection e with e1 e2 e3 e4; injection e3
  rw [e]
  exact h
end MS
namespace MS
open PySem PySem.Spec PyProof.Rows L2
def ItAt : Bool → Heap → Addr → Addr → Nat → Prop
  | true => Heap.IsListIter
  | false => Heap.IsTupleIter
theorem ItAt.obj {l : Bool} {h : Heap} {it a : Addr} {i : Nat} (x : ItAt l h it a i) : ∃ o, h.get? it = some o ∧ ∀ v, o.data ≠ .cell v := by
  cases l
  · obtain ⟨o, e, _, d⟩ := x
    exact ⟨o, e, fun v q => by rw [d] at q; cases q⟩
  · obtain ⟨o, e, _, d⟩ := x
    exact ⟨o, e, fun v q => by rw [d] at q; cases q⟩
theorem ItAt.to {l : Bool} {h h' : Heap} {it a : Addr} {i : Nat} (x : ItAt l h it a i) (k : ∀ o, h.get? it = some o → h'.get? it = some o) : ItAt l h' it a i := by
  cases l
  · exact Heap.IsTupleIter.at x k
  · exact Heap.IsListIter.at x k
end MS
namespace MP
def nthB (bs : List Bool) (k : Nat) : Bool := bs.getD k (bs.headD false)
/-- values put in order: (0, i) the i-th by place, (1, i) the i-th default, (2, i) the i-th by name -/
def sel {α : Type} (w : Nat) (a m k : List α) : List α := match w with
  | 0 => a
  | 1 => m
  | _ => k
def arr {α : Type} (pat : List (Nat × Nat)) (a m k : List α) : List α := pat.filterMap fun q => (sel q.1 a m k)[q.2]?
/-- xs.pop(i) -/
def popO (x i : D) : M D := match x, i with
  | .ref n, .int k => fun s => match s[n]? with
    | some ⟨true, .lst xs⟩ => if xs.length ≤ LIM then (match ixO xs.length k with
      | some j => match xs[j]? with
        | some d => .ok d (s.set n ⟨true, .lst (xs.eraseIdx j)⟩)
        | none => .bad
      | none => .bad) else .bad
    | _ => .bad
  | _, _ => no
def popE (o a : E) : E := fun e => bd (o e) fun d => bd (lstQ d) fun _ => bd (a e) fun i => popO d i
/-- list(range(n)) -/
def lrgF (a : E) : Es := fun e => bd (a e) fun d => match d with
  | .int n => if 0 ≤ n ∧ n ≤ 16777216 then pu (iRow 0 n.toNat) else no
  | _ => no
end MP
namespace MS
open PySem PySem.Spec PyProof.Rows L2
open MP (Sy D Cn Ob Sto R En bd pu no rz nx LIM)
/-- where the suite of a clause that names slot i leads -/
def unnamed (i : Nat) (D : Ends) : Ends := { nx := fun σ H => D.nx (σ.set i none) H, rt := D.rt, bk := fun σ H => D.bk (σ.set i none) H, ct := fun σ H => D.ct (σ.set i none) H }
abbrev Cl : Type := Value × Nat × (Addr → Value → Option Addr → TS)
def wNm (K : PySem.W.Frag) (Wout : WX) (D : Ends) : List Cl → WX
  | [] => Wout
  | q :: r => fun cls d σ H => ∃ b, PySem.W.exmOne K cls q.1 = some b ∧ (b = true → ∀ a, H a = none → q.2.2 a cls d (unnamed q.2.1 D) (σ.set q.2.1 (some (.ref a))) H) ∧ (b = false → wNm K Wout D r cls d σ H)
inductive HNm (X : Cx) : List ExceptHandler → List Cl → Prop
  | nil : HNm X [] []
  | cons {x n : Str} {cv : Value} {i : Nat} {ts : Addr → Value → Option Addr → TS} {b₀ : Stmt} {suite : List Stmt} {np pos' : Pos} {hds : List ExceptHandler} {l : List Cl} (hN : X.N.Nodup) (hi : X.N[i]? = some n) (hln : X.env.kindOf n = some .local) (hc : Names X x cv)
      (su : ∀ (a : Addr) (oe : Obj) (cls : Value) (d : Option Addr) (pn : List (Addr × Obj)), Zc cls d oe → (∃ vs, oe.data = .fields vs) → PSs (X.suite a ((a, oe) :: pn)) (b₀ :: suite) (ts a cls d)) (r : HNm X hds l) : HNm X (.ExceptHandler (some (.Name x np)) (some n) (b₀ :: suite) pos' :: hds) ((cv, i, ts) :: l)
section
variable {X : Cx} {body : List Stmt} {h₀ : ExceptHandler} {hds : List ExceptHandler} {l : List Cl} {pos : Pos} {tb : WX → TS} {Wout : WX}
/-- what is done with what a body lets out -/
abbrev taken (X : Cx) (pins : List (Addr × Obj)) (D : Ends) (hs : List ExceptHandler) : Value → Shared → Prop := fun u s₁ =>
  wpAny (model X.prog X.w) X.A (noteFrame u X.env) (fun _ s₂ => wpAny (model X.prog X.w) X.A (setFlight u none) (fun _ s₃ => wpAny (model X.prog X.w) X.A (handleBy u X.env hs) (SP X pins D) X.xe s₃) X.xe s₂) X.xe s₁
theorem ps_try_nm (st : X.stack = X.env :: X.outer) (fr : X.env.frame = some X.env.locals) (tk : Takes X Wout)
    (bo : ∀ (W : WX) (pn : List (Addr × Obj)) (xe : Value → Shared → Prop), Takes (X.tr pn xe) W → PassesOwn (model X.prog X.w) X.A X.env xe → PSs (X.tr pn xe) body (tb W)) (hh : HNm X (h₀ :: hds) l) :
    PS X (.Try body (h₀ :: hds) [] [] pos) (fun D σ H => tb (wNm X.K Wout D l) D σ H) := ⟨fun pins s σ H D I start => by
  have ok0 := I.ok
  have frs0 : X.A.frames = some (X.env :: X.outer) := by rw [ok0.frames, st]
  have catch_all : Takes (X.tr (X.pn ++ pins) (taken X pins D (h₀ :: hds))) (wNm X.K Wout D l) := fun u s' ⟨a, B, sI, pins', σ', H', cls, d, eu, J', nb, up, sky, na, os, ag, wish⟩ => by
    subst eu
    have J : Inv X pins σ' H' sI := J'.ofTry ok0
    rw [show (X.tr (X.pn ++ pins) (taken X pins D (h₀ :: hds))).stack = X.env :: X.outer from st] at sky
    refine Sky.land Zc.steady frs0 fr sky fun hp fly upp => ?_
    have Jp : Inv X pins σ' H' { s' with heap := hp } := J.landed nb fly.1 (up.trans upp) os ag
    obtain ⟨ob, fv, eob, zob, dob⟩ := fly.there
    have apart : ∀ {h : Heap} {o : Obj} {vs : Array Value}, h.FunFrames B (X.env :: X.outer) → h.get? a = some o → o.data = .fields vs → a ∉ frs (X.env :: X.outer) := fun ff e1 e2 hm => by
      obtain ⟨_, _, e3, e4⟩ := ff.mem hm
      cases e1.symm.trans e3
      exact e4 _ e2
    have far := apart fly.2.2.1 eob dob
    have notL : a ≠ X.env.locals := fun z => far (List.mem_filterMap.mpr ⟨X.env, List.mem_cons_self, fr.trans (congrArg some z.symm)⟩)
    have notF : a ∉ X.fs := fun hm => by
      obtain ⟨v, hv, q⟩ := List.mem_filterMap.mp hm
      exact far (List.mem_filterMap.mpr ⟨v, List.mem_cons_of_mem _ hv, q⟩)
    have Sp := Jp.suite eob dob na notL notF
    have each : ∀ {hs : List ExceptHandler} {qs : List Cl}, HNm X hs qs → wNm X.K Wout D qs cls d σ' H' → wpAny (model X.prog X.w) X.A (handleBy (.ref a) X.env hs) (SP X pins D) X.xe { s' with heap := hp } := by
      intro hs qs hk
      induction hk with
      | nil =>
        intro wish
        obtain ⟨_, _, _, oe, vs, T, oT, ts', he, hz, hd, h1, _⟩ := id fly
        have out : wpAny (model X.prog X.w) X.A (setFlight (.ref a) X.env.frame) (fun _ s4 => wpAny (model X.prog X.w) X.A (throw (.ref a) : Sem Flow) (SP X pins D) X.xe s4) X.xe { s' with heap := hp } := by
          rw [fr]
          exact HandSPX.setFlight_upZ fly fun _ held up4 => wpAny_throw (tk _ _ ⟨a, B, sI, pins, σ', H', cls, d, rfl, J, nb, (up.trans upp).trans up4, .inr (.inr (by rw [st]; exact held)), na, os, ag, wish⟩)
        refine wpAny_handleBy_nil ?_
        unfold PySem.passOn
        refine wpAny_bind (wpAny_field he hd h1 ?_)
        rw [if_neg (show ¬ ((Value.ref T == Value.none) = true) by simp)]
        first
          | exact wpAny_bind (wpAny_pure (wpAny_bind out))
          | exact wpAny_bind out
      | @cons x n cv i ts b₀ suite np pos' hds2 l2 hN hi hln hc su r ih =>
        intro ⟨b, eb, yes, no_⟩
        refine wpAny_handleBy_cons (codeAny_handlers_test ?_) (by intro q; cases q)
        have looks : PySem.W.Looks (model X.prog X.w) hp (typeOf (.ref a)) cls := fun _ _ _ _ kp q => wpAny_typeOf_ref (kp _ _ eob) (by rw [zob.1]; exact q)
        have name : ∀ {Q E : Value → Shared → Prop}, Q cv { s' with heap := hp } → wpAny (model X.prog X.w) (X.A.mark (some (.ref a))) (eval (.Name x np) X.env) Q E { s' with heap := hp } := fun q => by
          rcases hc with ⟨g1, g2, g3 | ⟨g3, g4, g5⟩⟩
          · exact ld_glob (X := X.suite a ((a, ob) :: (X.pn ++ pins))) Sp g1 g3 q g2
          · exact ld_blt (X := X.suite a ((a, ob) :: (X.pn ++ pins))) Sp g1 g3 g4 q g5 g2
        refine name ((PySem.W.exm_one (M := model X.prog X.w) Jp.kIn looks eb).here ?_)
        cases b with
        | false => exact ih (no_ rfl)
        | true =>
          refine codeAny_handlers_suite_as (HandSPX.lands_againZ fly fun h4 fly4 up4 => ?_)
          have J4 : Inv X pins σ' H' { s' with heap := h4 } := J.landed nb fly4.1 ((up.trans upp).trans up4) os ag
          obtain ⟨ob4, fv4, eob4, zob4, dob4⟩ := fly4.there
          refine store_ok (X := X.suite a ((a, ob4) :: (X.pn ++ pins))) (v := .ref a) (J4.suite eob4 dob4 na notL notF) hN hi (.inl hln) rfl (fun s5 S5 => ?_) (.inr hln)
          refine wpAny_mono ((su a ob4 cls d (X.pn ++ pins) zob4 ⟨_, dob4⟩).run [] s5 _ H' _ S5 (yes rfl a na)) (fun f s6 res => ?_) (fun _ _ z => z.elim)
          have gone : ∀ {σ6 : L2.St} {H6 : Hp} {Q : Shared → Prop}, Inv (X.suite a ((a, ob4) :: (X.pn ++ pins))) [] σ6 H6 s6 → (∀ s7, Inv X pins (σ6.set i none) H6 s7 → Q s7) →
              wpAny (model X.prog X.w) X.A (do bindName X.env n .none; unbindBehindTheSuite X.env n pos') (fun _ s7 => Q s7) X.xe s6 := fun S6 hq => gone_ok (S6.unsuite ok0) hN hi hln hq
          cases f with
          | ret u => exact let ⟨v6, _, _, S6, r6, q6⟩ := res; gone S6 fun _ J7 => ⟨v6, _, _, J7, r6, q6⟩
          | next => exact let ⟨_, _, S6, q6⟩ := res; gone S6 fun _ J7 => ⟨_, _, J7, q6⟩
          | brk => exact let ⟨_, _, S6, q6⟩ := res; gone S6 fun _ J7 => ⟨_, _, J7, q6⟩
          | cont => exact let ⟨_, _, S6, q6⟩ := res; gone S6 fun _ J7 => ⟨_, _, J7, q6⟩
    exact each hh wish
  refine wpAny_Try_except (wpAny_mono ((bo _ (X.pn ++ pins) _ catch_all PassesOwn.looking).run [] s σ H D (I.toTry _) start) (fun f s1 res => ?_) fun _ _ z => z)
  cases f with
  | ret u => exact let ⟨v, σ', H', J', r, q⟩ := res; ⟨v, σ', H', J'.ofTry ok0, r, q⟩
  | next => exact let ⟨σ', H', J', q⟩ := res; wpAny_execs_nil ⟨σ', H', J'.ofTry ok0, q⟩
  | brk => exact let ⟨σ', H', J', q⟩ := res; ⟨σ', H', J'.ofTry ok0, q⟩
  | cont => exact let ⟨σ', H', J', q⟩ := res; ⟨σ', H', J'.ofTry ok0, q⟩⟩
end
inductive HdN (X : Cx) (c : Ct) : List ExceptHandler → List Cl → List MP.Hd → Prop
  | nil : HdN X c [] [] []
  | cons {x n : Str} {cv : Value} {i : Nat} {b₀ : Stmt} {suite : List Stmt} {np pos' : Pos} {hds : List ExceptHandler} {l : List Cl} {hs : List MP.Hd} {hk : Nat → Bool} {hb : List Sy → List D → MP.St} (hN : X.N.Nodup) (hi : X.N[i]? = some n) (hln : X.env.kindOf n = some .local) (hc : Names X x cv)
      (hx : ∀ k, PySem.W.exmOne c.K (.ref (c.cad k)) cv = some (hk k))
      (hsu : ∀ (a : Addr) (oe : Obj) (k : Nat) (dx : Addr) (ns : List Sy) (vs : List D) (pn : List (Addr × Obj)), Zc (.ref (c.cad k)) (some dx) oe → (∃ vs, oe.data = .fields vs) → PSs (X.suite a ((a, oe) :: pn)) (b₀ :: suite) (tS (c.hand ⟨i, a, dx, ns, vs⟩) W0 (hb ns vs)))
      (r : HdN X c hds l hs) : HdN X c (.ExceptHandler (some (.Name x np)) (some n) (b₀ :: suite) pos' :: hds) ((cv, i, tHd c i hb) :: l) (⟨hk, some i, hb⟩ :: hs)
section
variable {X : Cx} {c : Ct} {W : WX} {pos : Pos} {body : List Stmt} {h₀ : ExceptHandler} {hds : List ExceptHandler} {l : List Cl} {hs : List MP.Hd} {m : MP.St} {Dd : Ends} {H H' : Hp} {J J' : Jm}
theorem h_nil : HdN X c [] [] [] := .nil
theorem h_cons {x n : Str} {cv : Value} {i : Nat} {b₀ : Stmt} {suite : List Stmt} {np pos' : Pos} {hk : Nat → Bool} {hb : List Sy → List D → MP.St} (hN : X.N.Nodup) (hi : X.N[i]? = some n) (hln : X.env.kindOf n = some .local) (hc : Names X x cv) (hx : ∀ k, PySem.W.exmOne c.K (.ref (c.cad k)) cv = some (hk k))
    (hsu : ∀ (a : Addr) (oe : Obj) (k : Nat) (dx : Addr) (ns : List Sy) (vs : List D) (pn : List (Addr × Obj)), Zc (.ref (c.cad k)) (some dx) oe → (∃ vs, oe.data = .fields vs) → PSs (X.suite a ((a, oe) :: pn)) (b₀ :: suite) (tS (c.hand ⟨i, a, dx, ns, vs⟩) W0 (hb ns vs)))
    (r : HdN X c hds l hs) : HdN X c (.ExceptHandler (some (.Name x np)) (some n) (b₀ :: suite) pos' :: hds) ((cv, i, tHd c i hb) :: l) (⟨hk, some i, hb⟩ :: hs) := .cons hN hi hln hc hx hsu r
theorem HdN.names (h : HdN X c hds l hs) : HNm X hds l := by
  induction h with
  | nil => exact .nil
  | cons hN hi hln hc hx hsu r ih => exact .cons hN hi hln hc (fun a oe cls d pn hz hv => ⟨fun pins s σ H Dd I ⟨k, dx, ns, vs, e1, e2, h⟩ => by subst e1 e2; exact (hsu a oe k dx ns vs pn hz hv).run pins s σ H Dd I h⟩) ih
theorem HdN.read (h : HdN X c hds l hs) (hxa : c.xa = none) (hX : X.K = c.K) {k : Nat} {ns : List Sy} {vs : List D} {e' : En} {s' : Sto} (pp : PostS c W Dd H J (MP.catch_ k ns vs e' s' hs)) {σ' : L2.St} {dx : Addr} (af : Aft c H J H' J' s') (r' : RSt c J' e' s' σ' H') (hd : XdAt c H' J' dx ns vs) :
    wNm X.K W Dd l (.ref (c.cad k)) (some dx) σ' H' := by
  induction h with
  | nil => exact pp σ' H' J' dx af r' hd
  | @cons x n cv i b₀ suite np pos' hds l hs hk hb hN hi hln hc hx hsu r ih =>
    refine ⟨hk k, by rw [hX]; exact hx k, fun yes a ha => ?_, fun no_ => ih ?_⟩
    · unfold MP.catch_ at pp
      simp only [yes, if_true] at pp
      have hlt : i < e'.length := by
        by_cases z : i < e'.length
        · exact z
        · rw [if_neg z] at pp; exact pp.elim
      rw [if_pos hlt] at pp
      refine ⟨k, dx, ns, vs, rfl, rfl, J', e'.set i .ex, s', r'.catch_ hxa hd (by rw [r'.len]; exact hlt), ?_⟩
      cases q2 : hb ns vs (e'.set i .ex) s' <;> simp only [q2] at pp
      · exact fun σ2 H2 J2 a2 r2 => pp _ H2 J2 (af.trans a2.unhand) (r2.back hxa)
      · exact fun v2 H2 J2 a2 r2 => pp v2 H2 J2 (af.trans a2.unhand) r2.unhand
      · exact fun σ2 H2 J2 a2 r2 => pp _ H2 J2 (af.trans a2.unhand) (r2.back hxa)
      · exact fun σ2 H2 J2 a2 r2 => pp _ H2 J2 (af.trans a2.unhand) (r2.back hxa)
      · exact pp.elim
      · exact pp.elim
    · unfold MP.catch_ at pp
      simpa only [no_, Bool.false_eq_true, if_false] using pp
theorem s_tryN (st : X.stack = X.env :: X.outer) (fr : X.env.frame = some X.env.locals) (tk : Takes X W) (hxa : c.xa = none) (hX : X.K = c.K)
    (bo : ∀ (W : WX) (pn : List (Addr × Obj)) (xe : Value → Shared → Prop), Takes (X.tr pn xe) W → PassesOwn (model X.prog X.w) X.A X.env xe → PSs (X.tr pn xe) body (tS c W m)) (hh : HdN X c (h₀ :: hds) l hs) :
    PS X (.Try body (h₀ :: hds) [] [] pos) (tS c W (MP.tryS m hs)) :=
  ps_imp (ps_try_nm (tb := fun W => tS c W m) st fr tk bo hh.names) fun Dd σ H ⟨J, env, S, r, pp⟩ => by
    refine ⟨J, env, S, r, ?_⟩
    unfold MP.tryS at pp
    cases q : m env S with
    | ex e' k ns vs s' =>
      simp only [q] at pp
      exact fun σ' H' J' dx af r' hd => hh.read hxa hX pp af r' hd
    | nx e s => rw [q] at pp; exact pp
    | rt d s => rw [q] at pp; exact pp
    | bk e s => rw [q] at pp; exact pp
    | ct e s => rw [q] at pp; exact pp
    | bad => rw [q] at pp; exact pp
end
end MS
namespace MS
open PySem PySem.Spec PyProof.Rows L2
open MP (Sy D Cn Ob Sto R En bd pu no rz nx LIM arr)
open He (ga ma fAd Fa DefD)
theorem vals_ix {vs : List V} {us : List Value} (h : Vals vs us) : ∀ i : Nat, (vs[i]? = none ∧ us[i]? = none) ∨ ∃ v u, vs[i]? = some v ∧ us[i]? = some u ∧ Vals [v] [u] := by
  induction h with
  | nil => exact fun i => .inl ⟨by simp, by simp⟩
  | cons r t ih =>
    intro i
    cases i with
    | zero => exact .inr ⟨_, _, rfl, rfl, .cons r .nil⟩
    | succ i => simpa using ih i
theorem vals_app1 {v : V} {u : Value} {vs : List V} {us : List Value} (h : Vals [v] [u]) (t : Vals vs us) : Vals (v :: vs) (u :: us) := by
  cases h with
  | cons r _ => exact .cons r t
theorem arr_vals {vs mz zs : List V} {us mv ws : List Value} (h1 : Vals vs us) (h2 : Vals mz mv) (h3 : Vals zs ws) : ∀ pat : List (Nat × Nat), Vals (arr pat vs mz zs) (arr pat us mv ws)
  | [] => .nil
  | q :: pat => by
    have ih := arr_vals h1 h2 h3 pat
    have one : ((MP.sel q.1 vs mz zs)[q.2]? = none ∧ (MP.sel q.1 us mv ws)[q.2]? = none) ∨ ∃ v u, (MP.sel q.1 vs mz zs)[q.2]? = some v ∧ (MP.sel q.1 us mv ws)[q.2]? = some u ∧ Vals [v] [u] := by
      rcases q with ⟨_ | _ | w, i⟩
      · exact vals_ix h1 i
      · exact vals_ix h2 i
      · exact vals_ix h3 i
    unfold arr at ih ⊢
    rw [List.filterMap_cons, List.filterMap_cons]
    rcases one with ⟨a, b⟩ | ⟨v, u, a, b, r⟩
    · rw [a, b]; exact ih
    · rw [a, b]; exact vals_app1 r ih
section
variable {c : Ct} {H : Hp} {J : Jm}
theorem RVs.ix {ds : List D} {vs : List V} (h : RVs c H J ds vs) (i : Nat) : (ds[i]? = none ∧ vs[i]? = none) ∨ ∃ d v, ds[i]? = some d ∧ vs[i]? = some v ∧ RV c H J d v := by
  have hl := h.length
  cases q : ds[i]? with
  | none =>
    refine .inl ⟨rfl, ?_⟩
    rw [List.getElem?_eq_none_iff] at q ⊢
    omega
  | some d =>
    obtain ⟨v, e, r⟩ := h.get q
    exact .inr ⟨d, v, rfl, e, r⟩
theorem arr_rvs {vs ms ks : List D} {vv mv kv : List V} (h1 : RVs c H J vs vv) (h2 : RVs c H J ms mv) (h3 : RVs c H J ks kv) : ∀ pat : List (Nat × Nat), RVs c H J (arr pat vs ms ks) (arr pat vv mv kv)
  | [] => .nil
  | q :: pat => by
    have ih := arr_rvs h1 h2 h3 pat
    have one : ((MP.sel q.1 vs ms ks)[q.2]? = none ∧ (MP.sel q.1 vv mv kv)[q.2]? = none) ∨ ∃ d v, (MP.sel q.1 vs ms ks)[q.2]? = some d ∧ (MP.sel q.1 vv mv kv)[q.2]? = some v ∧ RV c H J d v := by
      rcases q with ⟨_ | _ | w, i⟩
      · exact h1.ix i
      · exact h2.ix i
      · exact h3.ix i
    unfold arr at ih ⊢
    rw [List.filterMap_cons, List.filterMap_cons]
    rcases one with ⟨a, b⟩ | ⟨d, v, a, b, r⟩
    · rw [a, b]; exact ih
    · rw [a, b]; exact .cons r ih
end
section
variable {X : Cx} {c : Ct} {W : WX} {pos p : Pos} {e : Expr} {es : List Expr} {ms mk : MP.Es} {σ : L2.St} {H : Hp} {J : Jm} {S : Sto} {x : Str} {kws : List Keyword} {k n : Nat} {F : List D → MP.M D} {f : Addr} {fd : FuncData} {ps ks : List Str} {g : List Value → List Value → List Value} {gV : List V → List V → List V} {gD : List D → List D → List D}
/-- how the two rows of values come to the call -/
theorem kw_two (h1 : ∀ e S ds S', ms e S = .ok ds S' → ds.length = n) (h2 : ∀ e S ds S', mk e S = .ok ds S' → ds.length = ks.length) (hgd : ∀ H J ds vs es zs, RVs c H J ds vs → RVs c H J es zs → RVs c H J (gD ds es) (gV vs zs)) {Q : VK} {env : En} (r : RSt c J env S σ H) (pp : Post c W σ (RV c) H J Q (MP.cakE (fun _ => F) 0 gD ms mk env S)) :
    tA c W ms σ H fun vs H1 => vs.length = n ∧ tA c W mk σ H1 fun zs H2 => zs.length = ks.length ∧ ∃ ds S2 J2, RSt c J2 env S2 σ H2 ∧ RVs c H2 J2 ds (gV vs zs) ∧ Post c W σ (RV c) H2 J2 Q (F ds S2) := by
  refine ⟨J, env, S, r, ?_⟩
  unfold MP.cakE bd at pp
  cases q1 : ms env S with
  | exc _ _ _ _ => simp only [q1] at pp; exact pp
  | bad => simp only [q1] at pp; exact pp.elim
  | ok ds S1 =>
    simp only [q1] at pp
    intro vs H1 J1 a1 v1
    refine ⟨by rw [← v1.length]; exact h1 _ _ _ _ q1, J1, env, S1, r.aft a1, ?_⟩
    cases q2 : mk env S1 with
    | exc _ _ _ _ => simp only [q2] at pp; exact Post.weak a1 pp
    | bad => simp only [q2] at pp; exact pp.elim
    | ok ks' S2 =>
      simp only [q2] at pp
      intro zs H2 J2 a2 v2
      exact ⟨by rw [← v2.length]; exact h2 _ _ _ _ q2, _, S2, J2, (r.aft a1).aft a2, hgd _ _ _ _ _ _ (v1.aft a2) v2, Post.weak a2 (Post.weak a1 pp)⟩
theorem e_kwp0 (G : FnOk X.prog X.w X.K X.mg X.base (L2.CX X.prog X.w) k f fd ps (spI c F)) (hr : Room k X.A) (hg : Gl X x) (hm : X.mg x = some (.ref f)) (hkp : PySem.W.keepIn X.K (.ref f) = true) (hb : KBn X.K fd ps 0 ks g gV) (tk : Takes X W) (hkw : PK X kws (tA c W mk))
    (hgd : ∀ H J ds vs es zs, RVs c H J ds vs → RVs c H J es zs → RVs c H J (gD ds es) (gV vs zs)) (h2 : ∀ e S ds S', mk e S = .ok ds S' → ds.length = ks.length)
    (hall : (backToKw pos (keywordEach kws X.env)).all (·.1.isSome) = true) (hks : (backToKw pos (keywordEach kws X.env)).filterMap (·.1) = ks) (hdb : (x == ("__debug__" : Str)) = false)
    (hpl : ((backTo pos (starEach [] X.env)).any (·.1) || (backToKw pos (keywordEach kws X.env)).any (·.1.isNone)) = false) : PE X (.Call (.Name x p) [] kws pos) (tM c W (MP.cakE (fun _ => F) 0 gD MP.nilA mk)) := ⟨fun pins s σ H Q I ⟨J, env, S, r, pp⟩ => by
  refine wpAny_Call_Name_kw (ld_glob I hg hm ?_ hdb)
  have q0 := kw_two (n := 0) (ks := ks) (fun e S ds S' h => kl_nil h) h2 hgd r pp
  obtain ⟨J0, e0, S0, r0, p0⟩ := q0
  obtain ⟨_, q1⟩ := p0 [] H J0 (.refl r0.rs) .nil
  refine PySem.W.callWith_KW0 (h₀ := X.base) I.ok.mod.kin hkp hall (thn (hkw.run pos pins s σ H _ I q1) fun ws s2 ⟨zs, H2, I2, rz, l2, ds, S2, J2, r2, v2, p2⟩ => ⟨I2.kIn, ?_⟩) hpl
  rw [hks]
  exact run_kw G hr hb (passAt tk σ) I2 .nil rz rfl l2 ⟨J2, S2, _, r2.rs, v2, p2.we⟩⟩
end
section
variable {X : Cx} {c : Ct} {W : WX} {pos p : Pos} {e : Expr} {es : List Expr} {ms mk : MP.Es} {x : Str} {kws : List Keyword} {k : Nat} {g : List D → MP.M D} {st : Stmt} {ps : List Str}
theorem kb_plain {K : PySem.W.Frag} {fd : FuncData} {n : Nat} {ks : List Str} {f : Addr} (pat : List (Nat × Nat)) (F : FunD K x x (defArgs st) (defBody st) (defScope st) [] [] f fd)
    (hb : ∀ (kV doc pm : Value) (an : Option Addr) (cdv ct : Value) (us ws : List Value), us.length = n → ws.length = ks.length → bindArgs (PySem.W.fnOf x x (defArgs st) (defBody st) (defScope st) .none kV doc pm an cdv ct) ⟨us, ks.zip ws⟩ = pure (ps.zip (arr pat us [] ws))) :
    KBn K fd ps n ks (fun us ws => arr pat us [] ws) (fun vs zs => arr pat vs [] zs) := by
  obtain ⟨oc, od, dV, kV, doc, pm, an, cdv, ct, osl, rfl, lk, hcd, hD, hK⟩ := F.ex
  rcases hD with ⟨_, rfl⟩ | ⟨e, _⟩
  · exact ⟨fun s us ws _ l1 l2 => .of_eq (hb kV doc pm an cdv ct us ws l1 l2), fun r1 r2 => arr_vals r1 .nil r2 pat⟩
  · exact absurd rfl e
theorem e_kwm0 (ks : List Str) (pat : List (Nat × Nat)) (G : Okd X.prog X.w X.K X.mg X.base c k x st ps g) (hr : Room k X.A) (tk : Takes X W) (hkw : PK X kws (tA c W mk))
    (hb : ∀ (kV doc pm : Value) (an : Option Addr) (cdv ct : Value) (us ws : List Value), us.length = 0 → ws.length = ks.length → bindArgs (PySem.W.fnOf x x (defArgs st) (defBody st) (defScope st) .none kV doc pm an cdv ct) ⟨us, ks.zip ws⟩ = pure (ps.zip (arr pat us [] ws)))
    (h2 : ∀ e S ds S', mk e S = .ok ds S' → ds.length = ks.length) (hg : Gl X x := by rfl)
    (hall : (backToKw pos (keywordEach kws X.env)).all (·.1.isSome) = true := by rfl) (hks : (backToKw pos (keywordEach kws X.env)).filterMap (·.1) = ks := by rfl) (hdb : (x == ("__debug__" : Str)) = false := by decide)
    (hpl : ((backTo pos (starEach [] X.env)).any (·.1) || (backToKw pos (keywordEach kws X.env)).any (·.1.isNone)) = false := by rfl) : PE X (.Call (.Name x p) [] kws pos) (tM c W (MP.cakE (fun _ => g) 0 (fun a k => arr pat a [] k) MP.nilA mk)) := by
  obtain ⟨fd, F, G1, _⟩ := G.f
  exact e_kwp0 G1 hr hg G.m F.kp (kb_plain pat F hb) tk hkw (fun H J ds vs es zs r1 r2 => arr_rvs r1 .nil r2 pat) h2 hall hks hdb hpl
variable {kw : List (Str × V)}
end
end MS
namespace MS
open PySem PySem.Spec PyProof.Rows L2
open MP (Sy D Cn Ob Sto R En bd pu no rz nx LIM arr)
open He (ga ma fAd Fa DefD)
end MS
namespace MS
/-- what is asked of the classes behind an own error class -/
structure MroOk (mro : List PySem.Value) : Prop where
  some_ : mro.isEmpty = false
  has : ∀ X : String, X = "object" → mro.contains (.type X) = true
  lets : ∀ self, PySem.refuseLoop self "__setattr__" mro = pure ()
/-- own classes, then tl -/
def ownsTo (tl : List PySem.Value) : List PySem.Value → Bool
  | [] => false
  | x :: r => (x :: r == tl) || (match x with
    | .ref _ => ownsTo tl r
    | _ => false)
theorem ownsTo_ok {tl : List PySem.Value} (h0 : tl.isEmpty = false) (h1 : tl.contains (.type "object") = true) (h2 : ∀ self, PySem.refuseLoop self "__setattr__" tl = pure ()) : ∀ {l : List PySem.Value}, ownsTo tl l = true → MroOk l ∧ ∀ Y : String, l.contains (.type Y) = tl.contains (.type Y)
  | [], h => by cases h
  | x :: r, h => by
    unfold ownsTo at h
    rw [Bool.or_eq_true] at h
    rcases h with h | h
    · rw [beq_iff_eq.mp h]
      exact ⟨⟨h0, fun X e => by rw [e]; exact h1, h2⟩, fun _ => rfl⟩
    · cases x <;> try cases h
      obtain ⟨m, c⟩ := ownsTo_ok h0 h1 h2 (l := r) h
      refine ⟨⟨rfl, fun X e => ?_, fun self => ?_⟩, fun Y => ?_⟩
      · rw [List.contains_cons, m.has X e, Bool.or_true]
      · rw [PySem.refuseLoop_ref]
        exact m.lets self
      · rw [List.contains_cons, c Y]
        rfl
section
open PySem PySem.W PySem.Calls PyProof.Rows PySem.HandSPX Builtin Builtin.ObjectAttr
variable {prog : Program} {w : World} {A : Around} {E : Value → Shared → Prop} {R : Result → Shared → Prop} {hp : Heap} {g : Array GenState} {d : Drawn} {t : Nat} {os : OsState} {K : Frag} {name : Str} {tk : Tok} {v : Value} {x C : Addr} {fv : Array Value}
  {cd : ClassData}
/-- a first field: the dict comes with it -/
theorem osa_first (X : K.In hp) (hx : hp.get? x = some { cls := .ref C, data := .fields fv }) (hcd : clsIn K C = some cd) (hd : cd.hasDict = true) (hm : MroOk cd.mro) (ha : findIn K (.ref C) name = some none)
    (go : ∀ h' tk' dx, (∀ b o, b ≠ x → hp.get? b = some o → h'.get? b = some o) → hp.objs.size ≤ dx → dx ≠ x → h'.get? x = some { cls := .ref C, dict := some dx, data := .fields fv } → h'.Ns1 dx (fun y => if y = name then some v else none) → R (.ok (.ret .none)) ⟨h', g, d, tk', os⟩) :
    codeAny (model prog w) A (.call (.builtin "object.__setattr__") ⟨[.ref x, .str name tk, v], []⟩) R ⟨hp, g, d, t, os⟩ := by
  have inst : InstAt hp x { cls := .ref C, data := .fields fv } C none := ⟨hx, rfl, rfl, trivial⟩
  have apart : x ≠ hp.objs.size := Nat.ne_of_lt (Heap.lt_size hx)
  have isObj : Looks (model prog w) hp (isInstance (.ref x) (.type "object")) true := inst.type.andThen (looks_mroIn X (by unfold mroIn; rw [hcd, Option.bind_some, if_neg (by rw [hm.some_]; decide), hm.has _ rfl]))
  have clsL : Looks (model prog w) hp (classData C) cd := looks_clsIn X hcd
  have sf := F.store_object
  have mroL : Looks (model prog w) hp (mroOf (.ref C)) cd.mro := (looks_clsIn X hcd).andThen .now
  refine codeAny_call_builtin sf.slot.plain sf.entry
    (check_slot (M := model prog w) (s := ⟨hp, g, d, t, os⟩) (i := "object.__setattr__") (owner := "object") (n := "__setattr__") (self := .ref x) (rest := [.str name tk, v]) (kw := []) sf.kind sf.split isObj (sf.args (.ref x) (.str name tk) v) ?_)
  rw [osa_eq, refuse_eq]
  refine wpAny_bind (wpAny_bind (inst.type.at (wpAny_bind (mroL.at ?_))))
  rw [hm.lets]
  refine wpAny_pure (wpAny_bind (inst.type.at (wpAny_bind ((looks_findIn X ha).at (wpAny_bind ((Looks.now : Looks (model prog w) hp (storeTaker? none) none).at ?_))))))
  show wpAny _ _ (storeInOwnDict (.ref x) (.ref C) (.str name tk) name v false) _ _ _
  obtain ⟨_, _, _, _, _, _, _, _, _, _, _⟩ := cd
  dsimp only at hd
  subst hd
  unfold storeInOwnDict ownDictForStores
  repeat (first
    | with_reducible refine store_in_new ?_ ?_
    | with_reducible refine wpAny_loadPart_at hx ?_
    | with_reducible refine clsL.at ?_
    | wp_step)
  · exact ⟨_, #[], _, (Heap.get?_update_ne _ _ _ _ apart.symm).trans (Heap.get?_push_at rfl rfl), rfl, fun e he => absurd he (by simp), fun _ => rfl⟩
  · intro h' tk' hn' same
    have there : (hp.push { cls := .type "dict", data := .dict #[] }).get? x = some { cls := .ref C, data := .fields fv } := Heap.get?_push_of_some _ hx
    exact go h' tk' hp.objs.size (fun b o hb ho => (same.2 b (Nat.ne_of_lt (Heap.lt_size ho))).trans ((Heap.get?_update_ne _ _ _ _ hb).trans (Heap.get?_push_of_some _ ho))) (Nat.le_refl _) apart.symm ((same.2 x apart).trans (Heap.get?_update_self _ there rfl)) hn'
/-- a further field -/
theorem osa_next {dx : Addr} {m0 : Str → Option Value} {nl : List Str} (X : K.In hp) (hx : hp.get? x = some { cls := .ref C, dict := some dx, data := .fields fv }) (hns : hp.Ns1 dx m0) (hw : Within m0 nl) (hz : nl.length ≤ 1000) (hcd : clsIn K C = some cd) (hd : cd.hasDict = true) (hm : MroOk cd.mro) (ha : findIn K (.ref C) name = some none)
    (go : ∀ h' tk', (∀ b o, b ≠ dx → hp.get? b = some o → h'.get? b = some o) → h'.Ns1 dx (fun y => if y = name then some v else m0 y) → R (.ok (.ret .none)) ⟨h', g, d, tk', os⟩) :
    codeAny (model prog w) A (.call (.builtin "object.__setattr__") ⟨[.ref x, .str name tk, v], []⟩) R ⟨hp, g, d, t, os⟩ := by
  obtain ⟨oD, _, _, hoD, _, _⟩ := hns.count hw
  have inst : InstAt hp x { cls := .ref C, dict := some dx, data := .fields fv } C (some oD) := ⟨hx, rfl, rfl, hoD⟩
  have isObj : Looks (model prog w) hp (isInstance (.ref x) (.type "object")) true := inst.type.andThen (looks_mroIn X (by unfold mroIn; rw [hcd, Option.bind_some, if_neg (by rw [hm.some_]; decide), hm.has _ rfl]))
  have clsL : Looks (model prog w) hp (classData C) cd := looks_clsIn X hcd
  have sf := F.store_object
  have mroL : Looks (model prog w) hp (mroOf (.ref C)) cd.mro := (looks_clsIn X hcd).andThen .now
  refine codeAny_call_builtin sf.slot.plain sf.entry
    (check_slot (M := model prog w) (s := ⟨hp, g, d, t, os⟩) (i := "object.__setattr__") (owner := "object") (n := "__setattr__") (self := .ref x) (rest := [.str name tk, v]) (kw := []) sf.kind sf.split isObj (sf.args (.ref x) (.str name tk) v) ?_)
  rw [osa_eq, refuse_eq]
  refine wpAny_bind (wpAny_bind (inst.type.at (wpAny_bind (mroL.at ?_))))
  rw [hm.lets]
  refine wpAny_pure (wpAny_bind (inst.type.at (wpAny_bind ((looks_findIn X ha).at (wpAny_bind ((Looks.now : Looks (model prog w) hp (storeTaker? none) none).at ?_))))))
  show wpAny _ _ (storeInOwnDict (.ref x) (.ref C) (.str name tk) name v false) _ _ _
  obtain ⟨_, _, _, _, _, _, _, _, _, _, _⟩ := cd
  dsimp only at hd
  subst hd
  unfold storeInOwnDict ownDictForStores
  repeat (first
    | with_reducible refine OEX.store_in_old hns hw hz ?_
    | with_reducible refine wpAny_loadPart_at hx ?_
    | with_reducible refine clsL.at ?_
    | wp_step)
  exact fun h' tk' hn' same => go h' tk' (fun b o hb ho => (same.2 b hb).trans ho) hn'
end
end MS
namespace MS
open PySem PySem.Spec PyProof.Rows L2
open MP (Sy D Cn Ob Sto R En bd pu no rz nx LIM arr)
open He (ga ma fAd Fa DefD)
/-- what the written part says of an own error class -/
structure OexG (K : PySem.W.Frag) (C : Addr) : Prop where
  cls : ∃ nm q N bs bm sn sub ab col dd k0 k1 k2 k3 k5 B newId initId bmB, K.lookup C = some (excClassObj nm q C N bs bm true sn sub ab col dd k0 k1 k2 k3 k5 newId) ∧ ExcBaseFacts B newId initId bmB ∧ (∀ Y : String, bm.contains (.type Y) = bmB.contains (.type Y)) ∧ MroOk (.ref C :: bm)
  sa : PySem.W.findIn K (.ref C) "__setattr__" = some (some (.builtin "object.__setattr__"))
  exC : PySem.W.subIn K (.ref C) (.type "BaseException") = some true
  tyC : PySem.W.typeIn K (.ref C) = some (.type "type")
  kC : PySem.W.keepIn K (.ref C) = true
theorem OexG.data {K : PySem.W.Frag} {C : Addr} (T : OexG K C) : ∃ cd, PySem.W.clsIn K C = some cd ∧ cd.hasDict = true ∧ MroOk cd.mro := by
  obtain ⟨nm, q, N, bs, bm, sn, sub, ab, col, dd, k0, k1, k2, k3, k5, B, newId, initId, bmB, isC, _, _, m⟩ := T.cls
  refine ⟨{ name := nm, bases := bs, mro := .ref C :: bm, ns := N, qualname := q, hasDict := true, slotNames := sn, subclasses := sub, abstract := ab, collection := col, hasDel := false }, ?_, rfl, m⟩
  unfold PySem.W.clsIn
  rw [isC] <;> rfl
section
variable {X : Cx} {A : Around} {pins : List (Addr × Obj)} {σ : L2.St} {H : Hp} {s : Shared} {a C dx : Addr} {f : Str} {fs : List (Str × V)} {y : V} {u : Value} {Q : Unit → Shared → Prop} {E : Value → Shared → Prop}
theorem put_first (T : OexG X.K C) (I : Inv X pins σ H s) (ea : H a = some (exo a C none)) (hno : PySem.W.findIn X.K (.ref C) f = some none) (ry : RelV y u) (go : ∀ dx s', H dx = none → dx ≠ a → Inv X pins σ (upd (upd H dx (exd dx [(f, y)])) a (exo a C (some dx))) s' → Q () s') :
    wpAny (model X.prog X.w) A (setAttr (.ref a) f u) Q E s := by
  obtain ⟨cd, c1, c2, c3⟩ := T.data
  obtain ⟨t1, there⟩ := exo_at I.hok ea
  obtain ⟨hp, g, d, t, os⟩ := s
  refine PySem.W.set_plain I.kIn (ox := { cls := .ref C, dict := none, data := .fields #[.ref t1, .none, .none, .none, .bool false, .none] }) (od := none) ⟨there, rfl, rfl, trivial⟩ T.sa (osa_first I.kIn there c1 c2 c3 hno fun h' tk' dx kp dn da at_ ns => ?_)
  have free : H dx = none := I.hok.fresh dn
  have below : ∀ {b : Addr} {o : Obj}, hp.get? b = some o → b ≠ dx := fun q => Nat.ne_of_lt (Nat.lt_of_lt_of_le (Heap.lt_size q) dn)
  have nota : ∀ {b : Addr}, H b = none → b ≠ a := fun n z => by
    rw [z, ea] at n
    cases n
  refine go dx _ free da (I.un (t' := tk') { keep := fun b o q n _ _ => kp b o (nota n) q, slot := fun b o q n _ _ => ⟨o.slots, kp b o (nota n) q⟩, free := fun b o q n _ => ?_, there := fun b o q _ => ?_, tups := fun b xs q => ?_, frzs := fun b o v q => ?_, tbls := fun b ps q => ?_ } fun b o q => ?_)
  · rw [upd_ne (nota n), upd_ne (below q)]
    exact n
  · by_cases hb : b = a
    · exact ⟨_, hb ▸ at_⟩
    · exact ⟨o, kp b o hb q⟩
  · rw [upd_ne (at_ne ea q exo_tup), upd_ne (ne_of_none q free)]
    exact q
  · rw [upd_ne (at_ne ea q exo_frz), upd_ne (ne_of_none q free)]
    exact q
  · exact ⟨#[], by rw [upd_ne (at_ne ea q exo_tbl), upd_ne (ne_of_none q free), q]; simp⟩
  · by_cases hb : b = a
    · subst hb
      rw [upd_same] at q
      cases q
      exact exo_ok at_
    · rw [upd_ne hb] at q
      by_cases hd : b = dx
      · subst hd
        rw [upd_same] at q
        cases q
        exact exd_ok ns (relO_put (fs := []) ry fun _ => True.intro)
      · rw [upd_ne hd] at q
        refine (I.hok b o q).stay (fun c v hc z => kp c v ?_ z) (fun c hc => ?_) fun c xs hc => ?_
        · rcases hc with hc | hc
          · exact hc ▸ hb
          · exact at_ne ea hc exo_own
        · rw [upd_ne (at_ne ea hc exo_own), upd_ne (ne_of_none hc free)]
          exact hc
        · rw [upd_ne (at_ne ea hc exo_tup), upd_ne (ne_of_none hc free)]
          exact hc
theorem put_next (T : OexG X.K C) (I : Inv X pins σ H s) (ea : H a = some (exo a C (some dx))) (ed : H dx = some (exd dx fs)) (hl : fs.length ≤ 900) (hno : PySem.W.findIn X.K (.ref C) f = some none) (ry : RelV y u) (go : ∀ s', Inv X pins σ (upd H dx (exd dx ((f, y) :: fs))) s' → Q () s') :
    wpAny (model X.prog X.w) A (setAttr (.ref a) f u) Q E s := by
  obtain ⟨cd, c1, c2, c3⟩ := T.data
  obtain ⟨t1, there⟩ := exo_at I.hok ea
  obtain ⟨mA, ns, rel⟩ := exd_at I.hok ed
  obtain ⟨hp, g, d, t, os⟩ := s
  obtain ⟨oD, _, _, hoD, _, _⟩ := ns.count (within_of rel)
  refine PySem.W.set_plain I.kIn (ox := { cls := .ref C, dict := some dx, data := .fields #[.ref t1, .none, .none, .none, .bool false, .none] }) (od := some oD) ⟨there, rfl, rfl, hoD⟩ T.sa (osa_next I.kIn there ns (within_of rel) (by rw [List.length_map]; omega) c1 c2 c3 hno fun h' tk' kp hn => ?_)
  have still : ∃ o, h'.get? dx = some o := let ⟨o, _, _, q, _⟩ := hn; ⟨o, q⟩
  exact go _ (I.write (t' := tk') (x := dx) (e := dx) (o := exd dx ((f, y) :: fs)) (by rw [ed]; exact True.intro) (.inl rfl) kp still (exd_ok hn (relO_put ry rel)))
end
def tOstG (K : PySem.W.Frag) (f : Str) (to te : TE) : TS := fun D σ H => te σ H fun y H1 => to σ H1 fun x H2 => ∃ a C : Addr, x = .ref a ∧ OexG K C ∧ PySem.W.findIn K (.ref C) f = some none ∧
  ((H2 a = some (exo a C none) ∧ ∀ dx, H2 dx = none → dx ≠ a → D.nx σ (upd (upd H2 dx (exd dx [(f, y)])) a (exo a C (some dx)))) ∨
    ∃ (dx : Addr) (fs : List (Str × V)), H2 a = some (exo a C (some dx)) ∧ H2 dx = some (exd dx fs) ∧ fs.length ≤ 900 ∧ D.nx σ (upd H2 dx (exd dx ((f, y) :: fs))))
section
variable {X : Cx} {c : Ct} {W : WX} {pos p p' pos2 : Pos} {o e : Expr} {to te : TE} {f : Str}
theorem ps_ostG (ho : PE X o to) (he : PE X e te) (hs : swapsWith e (some (.Attribute o f p')) pos.line X.env = pure false := by rfl) : PS X (.Assign [.Attribute o f p'] e pos) (tOstG X.K f to te) := ⟨fun pins s σ H D I h => by
  refine plainObj_wpAny_Assign_Attribute (thn (he.run pins s σ H _ I h) fun v s1 ⟨y, H1, I1, r1, q1⟩ => thn (ho.run pins s1 σ H1 _ I1 q1) fun u s2 ⟨x, H2, I2, r2, a, C, ex, T, hno, q⟩ => ?_) hs
  subst ex
  have eu : u = Value.ref a := r2
  subst eu
  rcases q with ⟨ea, q⟩ | ⟨dx, fs, ea, ed, hl, q⟩
  · exact put_first T I2 ea hno r1 fun dx s' n ne J => ⟨σ, _, J, q dx n ne⟩
  · exact put_next T I2 ea ed hl hno r1 fun s' J => ⟨σ, _, J, q⟩⟩
end
section
variable {X : Cx} {pos p : Pos} {x : Str} {C fI : Addr} {k : Nat} {fd : FuncData} {ps : List Str} {sp : Sp} {e : Expr} {es : List Expr} {ta : TA}
/-- C(..): a new exception, its __init__, and it is let go -/
theorem made {pins : List (Addr × Obj)} {σ : L2.St} {H : Hp} {s : Shared} {Q : XK} {us : List Value} {vs : List V} (T : OexG X.K C) (iC : PySem.W.findIn X.K (.ref C) "__init__" = some (some (.ref fI))) (tI : PySem.W.typeIn X.K (.ref fI) = some (.type "function")) (F1 : FnOk X.prog X.w X.K X.mg X.base (L2.CX X.prog X.w) k fI fd ps sp)
    (hr : Room (k + 1) X.A) (hb : Binds X.K fd ps []) (lax : Passes (L2.CX X.prog X.w) X fun _ _ _ => False) (I : Inv X pins σ H s) (rv : Vals vs us) (few : vs.length ≤ 1000)
    (h : ∀ a, H a = none → sp (.ref a :: vs) (upd H a (exo a C none)) (fun v H2 => v = .non ∧ ∃ (d : Addr) (fs : List (Str × V)), H2 a = some (exo a C (some d)) ∧ H2 d = some (exd d fs) ∧ H d = none ∧ Q (.ref C) (some d) (upd (del H2 a) d (.xd fs))) fun _ _ _ => False) :
    wpAny (model X.prog X.w) X.A (call (.ref C) us) (MkP X pins σ Q) X.xe s := by
  obtain ⟨nm, q, N, bs, bm, sn, sub, ab, col, dd, k0, k1, k2, k3, k5, B, newId, initId, bmB, isC, base, same, _⟩ := T.cls
  obtain ⟨hp, g, dr, tk, os⟩ := s
  have room : hp.objs.size ≤ hp.objs.size + 1 := Nat.le_succ _
  have new := h (hp.objs.size + 1) (I.hok.fresh room)
  have old : ∀ b o, hp.get? b = some o → ((hp.push (PySem.W.kdv_tup us)).push (PySem.HandSPX.excO C hp.objs.size)).get? b = some o := fun _ _ e => Heap.get?_push_of_some _ (Heap.get?_push_of_some _ e)
  have at_ : ((hp.push (PySem.W.kdv_tup us)).push (PySem.HandSPX.excO C hp.objs.size)).get? (hp.objs.size + 1) = some (PySem.HandSPX.excO C hp.objs.size) := by heap_get
  have In : Inv X pins σ (upd H (hp.objs.size + 1) (exo (hp.objs.size + 1) C none)) ⟨(hp.push (PySem.W.kdv_tup us)).push (PySem.HandSPX.excO C hp.objs.size), g, dr, tk, os⟩ :=
    I.laid (t' := tk) (a := hp.objs.size + 1) (o := exo (hp.objs.size + 1) C none) (h' := (hp.push (PySem.W.kdv_tup us)).push (PySem.HandSPX.excO C hp.objs.size)) old room (exo_ok at_)
  have rv2 : Vals (V.ref (hp.objs.size + 1) :: vs) (Value.ref (hp.objs.size + 1) :: us) := .cons rfl rv
  have len1 : (Value.ref (hp.objs.size + 1) :: us ++ []).length = ps.length := by
    rw [List.append_nil, ← rv2.length]
    exact F1.len _ _ _ _ new
  have line : us.length ≤ sizeLine := by
    rw [← rv.length, sizeLine_eq]
    omega
  have rv3 : Vals (V.ref (hp.objs.size + 1) :: vs) (Value.ref (hp.objs.size + 1) :: us ++ []) := by rw [List.append_nil]; exact rv2
  refine wpAny_call (PySem.HandSPX.call_own base same (I.kIn _ _ isC) (PySem.W.looks_findIn I.kIn iC) (fun self => PySem.W.bind_fn I.kIn self tI) line
    (codeAny_mono (F1.run _ X.stack _ _ ⟨Value.ref (hp.objs.size + 1) :: us, []⟩ (Value.ref (hp.objs.size + 1) :: us ++ []) _ _ (fun _ _ _ => False) (hr.make C us []) (In.env0.make C us []) (hb _ (Value.ref (hp.objs.size + 1) :: us) In.kIn len1) rv3 new) fun res s2 got => ?_))
  cases res with
  | error er => exact lax pins σ _ _ er s2 In got
  | ok fl =>
    cases fl with
    | ret u =>
      obtain ⟨v, H2, os2, bare2, un2, hok2, rv, ev, d, fs, ea, ed, hd1, q2⟩ := got
      cases ev
      obtain ⟨h2, g2, d2, t2, os'⟩ := s2
      exact ⟨rv, mk_end (raises_own T.exC T.tyC) I room old un2 hok2 os2 bare2 ea ed hd1 q2⟩
    | _ => exact got.elim
end
def tMkG (C : Addr) (sp : Sp) (ta : TA) : L2.St → Hp → XK → Prop := fun σ H Q => ta σ H fun vs H1 => vs.length ≤ 1000 ∧ ∀ a, H1 a = none → sp (.ref a :: vs) (upd H1 a (exo a C none))
  (fun v H2 => v = .non ∧ ∃ (d : Addr) (fs : List (Str × V)), H2 a = some (exo a C (some d)) ∧ H2 d = some (exd d fs) ∧ H1 d = none ∧ Q (.ref C) (some d) (upd (del H2 a) d (.xd fs))) fun _ _ _ => False
section
variable {X : Cx} {pos p : Pos} {x : Str} {C fI : Addr} {k : Nat} {fd : FuncData} {ps : List Str} {sp : Sp} {e : Expr} {es : List Expr} {ta : TA}
theorem pmk_G (T : OexG X.K C) (iC : PySem.W.findIn X.K (.ref C) "__init__" = some (some (.ref fI))) (tI : PySem.W.typeIn X.K (.ref fI) = some (.type "function")) (F1 : FnOk X.prog X.w X.K X.mg X.base (L2.CX X.prog X.w) k fI fd ps sp) (hr : Room (k + 1) X.A) (hb : Binds X.K fd ps []) (hg : Gl X x) (hm : X.mg x = some (.ref C)) (ha : PA X (e :: es) ta)
    (hdb : (x == ("__debug__" : Str)) = false) (he : starEach (e :: es) X.env = (false, eval e X.env) :: starEach es X.env) (hpl : (backTo pos (starEach es X.env)).any (·.1) = false) : PMk X (.Call (.Name x p) (e :: es) [] pos) (tMkG C sp ta) := fun pins s σ H Q I h =>
  wpAny_Call_Name_kw (ld_glob I hg hm (PySem.W.callWith_K (h₀ := X.base) I.ok.mod.kin T.kC (thn (ha.run pos pins s σ H _ I h) fun us s1 ⟨vs, H1, I1, r1, few, q1⟩ => ⟨I1.kIn, made T iC tI F1 hr hb passL I1 r1 few q1⟩) he hpl) hdb)
end
abbrev veT : List Value := [.type "ValueError", .type "Exception", .type "BaseException", .type "object"]
abbrev leT : List Value := [.type "LookupError", .type "Exception", .type "BaseException", .type "object"]
abbrev ieT : List Value := [.type "IndexError", .type "LookupError", .type "Exception", .type "BaseException", .type "object"]
def oexGB (K : PySem.W.Frag) (C : Addr) : Bool := match K.lookup C with
  | some ⟨.type t, _, .cls cd, sl⟩ => (match cd.mro, sl.toList with
    | .ref C' :: bm, [_, _, _, _, some (.builtin n), _] => decide (t = "type") && (C' == C && (!cd.hasDel && (cd.hasDict && ((decide (n = "ValueError.__new__") && ownsTo veT bm) || ((decide (n = "LookupError.__new__") && ownsTo leT bm) || (decide (n = "IndexError.__new__") && ownsTo ieT bm))))))
    | _, _ => false)
  | _ => false
theorem mro_cons {C : Addr} {bm : List Value} (m : MroOk bm) : MroOk (.ref C :: bm) := ⟨rfl, fun X e => by rw [List.contains_cons, m.has X e, Bool.or_true], fun self => by rw [PySem.refuseLoop_ref]; exact m.lets self⟩
theorem oexGB_ok {K : PySem.W.Frag} {C : Addr} (h : oexGB K C = true) : ∃ nm q N bs bm sn sub ab col dd k0 k1 k2 k3 k5 B newId initId bmB, K.lookup C = some (excClassObj nm q C N bs bm true sn sub ab col dd k0 k1 k2 k3 k5 newId) ∧ ExcBaseFacts B newId initId bmB ∧ (∀ Y : String, bm.contains (.type Y) = bmB.contains (.type Y)) ∧ MroOk (.ref C :: bm) := by
  unfold oexGB at h
  split at h
  · rename_i t dd cd sl ho
    split at h
    · rename_i C' bm k0 k1 k2 k3 n k5 hm hs
      simp only [Bool.and_eq_true, Bool.or_eq_true, decide_eq_true_eq, beq_iff_eq, Bool.not_eq_true'] at h
      obtain ⟨h1, h2, h4, h5, h6⟩ := h
      subst h1 h2
      obtain ⟨nm, bs, mro, ns, qn, hd, sn, sub, ab, col, del⟩ := cd
      dsimp only at hm h4 h5
      subst hm h4 h5
      obtain ⟨l⟩ := sl
      simp only at hs
      subst hs
      rcases h6 with ⟨h7, h8⟩ | ⟨h7, h8⟩ | ⟨h7, h8⟩
      · subst h7
        obtain ⟨m, cc⟩ := ownsTo_ok (tl := veT) rfl (by decide +kernel) F.store_ValueError.passes h8
        exact ⟨nm, qn, ns, bs, bm, sn, sub, ab, col, dd, k0, k1, k2, k3, k5, _, _, _, _, ho, F.excBase_ValueError, cc, mro_cons m⟩
      · subst h7
        obtain ⟨m, cc⟩ := ownsTo_ok (tl := leT) rfl (by decide +kernel) F.store_LookupError.passes h8
        exact ⟨nm, qn, ns, bs, bm, sn, sub, ab, col, dd, k0, k1, k2, k3, k5, _, _, _, _, ho, F.excBase_LookupError, cc, mro_cons m⟩
      · subst h7
        obtain ⟨m, cc⟩ := ownsTo_ok (tl := ieT) rfl (by decide +kernel) F.store_IndexError.passes h8
        exact ⟨nm, qn, ns, bs, bm, sn, sub, ab, col, dd, k0, k1, k2, k3, k5, _, _, _, _, ho, F.excBase_IndexError, cc, mro_cons m⟩
    · cases h
  · cases h
/-- the class x with its __init__ of the fields fs -/
def exGB (K : PySem.W.Frag) (x : Str) (fs : List Str) : Bool := oexGB K (ga K x) && (He.eqO (PySem.W.findIn K (.ref (ga K x)) "__setattr__") (some (some (.builtin "object.__setattr__"))) && (decide (PySem.W.subIn K (.ref (ga K x)) (.type "BaseException") = some true) &&
  (decide (PySem.W.typeIn K (.ref (ga K x)) = some (.type "type")) && (PySem.W.keepIn K (.ref (ga K x)) && (He.eqO (PySem.W.findIn K (.ref (ga K x)) "__init__") (some (some (.ref (ma K (ga K x) "__init__")))) &&
  (decide (PySem.W.typeIn K (.ref (ma K (ga K x) "__init__")) = some (.type "function")) && fs.all fun f => He.eqO (PySem.W.findIn K (.ref (ga K x)) f) (some none)))))))
structure ExG (K : PySem.W.Frag) (x : Str) (fs : List Str) : Prop where
  o : OexG K (ga K x)
  i : PySem.W.findIn K (.ref (ga K x)) "__init__" = some (some (.ref (ma K (ga K x) "__init__")))
  t : PySem.W.typeIn K (.ref (ma K (ga K x) "__init__")) = some (.type "function")
  n : ∀ f ∈ fs, PySem.W.findIn K (.ref (ga K x)) f = some none
theorem exGB_ok {K : PySem.W.Frag} {x : Str} {fs : List Str} (h : exGB K x fs = true) : ExG K x fs := by
  obtain ⟨h1, h⟩ := He.ba h
  obtain ⟨h2, h⟩ := He.ba h
  obtain ⟨h3, h⟩ := He.ba h
  obtain ⟨h4, h⟩ := He.ba h
  obtain ⟨h5, h⟩ := He.ba h
  obtain ⟨h6, h⟩ := He.ba h
  obtain ⟨h7, h8⟩ := He.ba h
  exact ⟨⟨oexGB_ok h1, He.eqO_ok h2, of_decide_eq_true h3, of_decide_eq_true h4, h5⟩, He.eqO_ok h6, of_decide_eq_true h7, fun f hf => He.eqO_ok (List.all_eq_true.mp h8 f hf)⟩
def clsGB (K : PySem.W.Frag) (ns fs : List Str) : Bool := ns.all fun x => exGB K x fs && xfB K (ga K x)
theorem clsG_at {K : PySem.W.Frag} {ns fs : List Str} (h : clsGB K ns fs = true) (hn : ns ≠ []) (k : Nat) : ExG K (nth ns k) fs ∧ XfC K (ga K (nth ns k)) := by
  obtain ⟨h1, h2⟩ := He.ba (List.all_eq_true.mp h _ (nth_mem hn k))
  exact ⟨exGB_ok h1, xfB_ok h2⟩
theorem e1_readG {K : PySem.W.Frag} {C : Addr} {w f y : Str} {vs : List V} {H : Hp} {Q : VK} {E : XK} (T : OexG K C) (n1 : PySem.W.findIn K (.ref C) "word" = some none) (n2 : PySem.W.findIn K (.ref C) f = some none) (h : spE1 C w f vs H Q E) :
    tSeq (tOstG K "word" (tVar 0) (tC (.str w))) (tOstG K f (tVar 0) (tVar 1)) { nx := fun _ H' => Q .non H', rt := Q } (L2.start ["self", y] vs) H := by
  obtain ⟨a, v, rfl, ha, k⟩ := h
  refine ⟨_, rfl, a, C, rfl, T, n1, .inl ⟨ha, fun dx hd hne => ?_⟩⟩
  exact ⟨_, rfl, _, rfl, a, C, rfl, T, n2, .inr ⟨dx, _, upd_same, by rw [upd_ne hne, upd_same], by show 1 ≤ 900; decide, k dx hd hne⟩⟩
structure OkxG (P : Program) (w : World) (K : PySem.W.Frag) (mg : Str → Option Value) (base : Heap) (c : Ct) (k : Nat) (x y : Str) (wS fS : Str) : Prop where
  m : mg x = some (.ref (c.cad k))
  o : OexG K (c.cad k)
  f : ∃ fI fd, PySem.W.findIn K (.ref (c.cad k)) "__init__" = some (some (.ref fI)) ∧ PySem.W.typeIn K (.ref fI) = some (.type "function") ∧ FnOk P w K mg base (L2.CX P w) 1 fI fd ["self", y] (spE1 (c.cad k) wS fS) ∧ Binds K fd ["self", y] []
section
variable {P : Program} {w : World} {K : PySem.W.Frag} {mg : Str → Option Value} {base : Heap} {c : Ct}
theorem okxG_of {k : Nat} {x y q wS fS : Str} {st : Stmt} {fs : List Str} (hm : mg x = some (.ref (ga K x))) (hk : c.cad k = ga K x) (T : ExG K x fs) (hw : ("word" : Str) ∈ fs) (hf : fS ∈ fs) (F : ∃ fd, FunD K "__init__" q (defArgs st) (defBody st) (defScope st) [] [] (ma K (ga K x) "__init__") fd) (S : FnScope ["self", y] ["self", y] (defScope st))
    (hbi : ∀ (kV doc pm : Value) (an : Option Addr) (cdv ct : Value) (us : List Value), us.length = ([("self" : Str), y] : List Str).length → bindArgs (PySem.W.fnOf "__init__" q (defArgs st) (defBody st) (defScope st) .none kV doc pm an cdv ct) ⟨us, []⟩ = pure (([("self" : Str), y] : List Str).zip us))
    (hb : ∀ (cdv : Value) (A : Around) (outer : List Env) (s : Shared) (H : Hp) (E : XK), PSs (cxOf (L2.CX P w) P w K mg base ["self", y] q (defScope st) (ma K (ga K x) "__init__") cdv A outer s H E) (defBody st) (tSeq (tOstG K "word" (tVar 0) (tC (.str wS))) (tOstG K fS (tVar 0) (tVar 1)))) :
    OkxG P w K mg base c k x y wS fS := by
  obtain ⟨fd, F⟩ := F
  refine ⟨by rw [hk]; exact hm, by rw [hk]; exact T.o, _, fd, by rw [hk]; exact T.i, T.t, ?_, F.bindsN hbi⟩
  refine F.ok S (fun vs H Q E ⟨a, v, e, _⟩ => by rw [e]; rfl) fun cdv A outer s H vs Q E hr h => ⟨_, hb cdv A outer s H E, ?_⟩
  rw [hk] at h
  exact e1_readG (K := K) (C := ga K x) (vs := vs) (H := H) (Q := Q) (E := E) (y := y) T.o (T.n _ hw) (T.n _ hf) h
end
section
variable {X : Cx} {c : Ct} {W : WX} {pos pos2 p : Pos} {e : Expr} {ma : MP.E} {x y wS fS : Str} {k : Nat} {w f : Sy}
theorem s_raiseG (hc : X.calm = true) (hk : X.K = c.K) (tk : Takes X W) (G : OkxG X.prog X.w X.K X.mg X.base c k x y wS fS) (hr : Room 2 X.A) (ha : PE X e (tM c W ma)) (hw : wS = sy w := by rfl) (hf : fS = sy f := by rfl) (hg : Gl X x := by rfl) (hdb : (x == ("__debug__" : Str)) = false := by decide)
    (he : starEach [e] X.env = [(false, eval e X.env)] := by rfl) (hpl : (backTo pos (starEach [] X.env)).any (·.1) = false := by rfl) :
    PS X (.Raise (some (.Call (.Name x p) [e] [] pos)) none pos2) (tS c W (MP.raiS k [f, [119, 111, 114, 100]] (MP.consA ma (MP.consA (MP.cE (.str w)) MP.nilA)))) := by
  obtain ⟨fI, fd, i1, i2, F1, hb⟩ := G.f
  refine ps_imp (ps_raise hc tk (pmk_G G.o i1 i2 F1 hr hb hg G.m (pa_cons ha pa_nil he) hdb he hpl)) fun Dd σ H ⟨J, env, S, r, pp⟩ => ?_
  have e1 : MP.raiS k [f, [119, 111, 114, 100]] (MP.consA ma (MP.consA (MP.cE (.str w)) MP.nilA)) = MP.ev ma fun d e s => .ex e k [f, [119, 111, 114, 100]] [d, .str w] s := by
    funext e s
    simp only [MP.raiS, MP.ev, MP.consA, MP.cE, MP.nilA, MP.bd_pu, bd]
    cases ma e s <;> rfl
  rw [e1] at pp
  exact tG.imp (bindS (rel' := RV c) r pp) fun x H1 ⟨d, S1, J1, a1, r1, v1, p1⟩ => by
    refine ⟨by show 1 ≤ 1000; decide, fun a hna => ⟨a, x, rfl, upd_same, fun dx hd hne => ?_⟩⟩
    rw [upd_ne hne] at hd
    refine ⟨rfl, dx, [(fS, x), ("word", .str wS)], by unfold hIni; rw [upd_ne (Ne.symm hne), upd_same], by unfold hIni; rw [upd_same], hd, ?_⟩
    have eH : upd (del (hIni a (c.cad k) dx (upd H1 a (exo a (c.cad k) none)) [("word", .str wS)] fS x) a) dx (.xd [(fS, x), ("word", .str wS)]) = upd H1 dx (.xd [(fS, x), ("word", .str wS)]) := by
      funext b
      by_cases h1 : b = dx
      · rw [h1, upd_same, upd_same]
      · rw [upd_ne h1, upd_ne h1]
        by_cases h2 : b = a
        · rw [h2, del_same, hna]
        · rw [del_ne h2]
          unfold hIni
          rw [upd_ne h1, upd_ne h2, upd_ne h1, upd_ne h2]
    rw [eH]
    have af : Aft c H1 J1 (upd H1 dx (.xd [(fS, x), ("word", .str wS)])) J1 S1 := r1.rs.new plain_xd hd
    refine p1 σ _ J1 dx af (r1.aft af) ⟨_, upd_same, fun z => r1.rs.mt dx z hd, ?_, ?_⟩
    · show [fS, ("word" : Str)] = [sy f, sy [119, 111, 114, 100]]
      rw [hf]
      rfl
    · exact .cons (v1.aft af) (.cons (by show V.str wS = _; rw [hw]) .nil)
end
end MS
namespace MS
open PySem PySem.Spec PyProof.Rows L2
open MP (Sy D Cn Ob Sto R En bd pu no rz nx LIM)
end MS
namespace L2
open PySem PySem.W PySem.Calls PyProof PyProof.Rows
end L2
namespace MP
/-- all ints -/
def allZ : List D → Option (List Int)
  | [] => some []
  | .int z :: r => (allZ r).map (z :: ·)
  | _ :: _ => none
def insZ (x : Int) : List Int → List Int
  | [] => [x]
  | y :: r => if x ≤ y then x :: y :: r else y :: insZ x r
def srtZ (l : List Int) : List Int := l.foldr insZ []
def srtK (ds : List D) : M (List D) := match allZ ds with
  | some ms => if ms.length < 64 then pu ((srtZ ms).map .int) else no
  | none => no
def srtF (a : E) : Es := fun e => bd (a e) fun d => bd (itemsO d) srtK
end MP
namespace MS
open PySem PySem.Spec PyProof.Rows L2
open MP (Sy D Cn Ob Sto R En bd pu no rz nx LIM)
end MS
namespace MP
/-- the figures of a number -/
def numZ (i : Int) : Sy := if i < 0 then 45 :: TL.numL i.natAbs else TL.numL i.natAbs
def strO : List D → M D
  | [.int i] => if i.natAbs.log2 < 1920 then pu (.str (numZ i)) else no
  | _ => no
def isDig (c : Nat) : Bool := decide (48 ≤ c) && decide (c ≤ 57)
def digs (z : Sy) : Bool := decide (z ≠ []) && z.all isDig
/-- the number that a text writes -/
def intZ : Sy → Option Int
  | [] => none
  | c :: z => if digs (c :: z) then some ((PySem.NumText.digitsVal (c :: z) : Nat) : Int) else if c = 45 ∧ digs z = true then some (-((PySem.NumText.digitsVal z : Nat) : Int)) else none
def intK (z : Sy) : M D := if z.length ≤ 640 then (match intZ z with
  | some n => pu (.int n)
  | none => no) else no
def intxO : List D → M D
  | [.str z] => intK z
  | xs => intO xs
def strsOf : List D → Option (List Sy)
  | [] => some []
  | .str z :: r => (strsOf r).map (z :: ·)
  | _ => none
def joinK (s : Sy) (ds : List D) : M D := match strsOf ds with
  | some zs => if (zs.map (·.length)).sum + zs.length * s.length ≤ LIM then pu (.str (TL.joinL s zs)) else no
  | none => no
/-- a text -/
def strQ : D → M Sy
  | .str s => pu s
  | _ => no
def joinE (o a : E) : E := fun e => bd (o e) fun x => bd (strQ x) fun s => bd (a e) fun y => bd (itemsO y) (joinK s)
def splK (z p : Sy) : M (List D) := if p ≠ [] ∧ p.all (· < 256) = true ∧ z.length + 2 ≤ LIM then pu ((TL.spl p 0 [] z).map .str) else no
def splF (a b : E) : Es := fun e => bd (a e) fun x => bd (strQ x) fun z => bd (b e) fun y => bd (strQ y) (splK z)
def rmpK (z p : Sy) : M D := if z.length ≤ LIM then pu (.str (if TL.pre p z = true then z.drop p.length else z)) else no
def rmpE (o a : E) : E := fun e => bd (o e) fun x => bd (strQ x) fun z => bd (a e) fun y => bd (strQ y) (rmpK z)
def smulO : D → D → M D
  | .str z, .int k => if 1 ≤ k ∧ k ≤ 1000 ∧ z.length ≤ 1000 then pu (.str (List.replicate k.toNat z).flatten) else no
  | _, _ => no
def repK : D → List D → M (List D)
  | .int k, ds => if 0 ≤ k ∧ k ≤ 1000 ∧ ds.length ≤ 1000 then pu (List.replicate k.toNat ds).flatten else no
  | _, _ => no
/-- xs * k: a new list -/
def repF (a b : E) : Es := fun e => bd (a e) fun x => bd (b e) fun y => bd (lstQ x) (repK y)
end MP
namespace MS
open PySem PySem.Spec PyProof.Rows L2 TL
open MP (Sy D Cn Ob Sto R En bd pu no rz nx LIM)
theorem tl_sy (s : Sy) : tl (sy s) = s := by simp [tl, sy]
theorem sy_tl (x : Str) : sy (tl x) = x := by
  cases x with
  | mk cps => simp [tl, sy]
theorem sy_of {x : Str} {s : Sy} (h : tl x = s) : x = sy s := by rw [← h, sy_tl]
theorem num_sy (i : Int) : Str.ofString (toString i) = sy (MP.numZ i) := by
  apply sy_of
  unfold MP.numZ
  by_cases h : i < 0
  · rw [if_pos h]
    match i, h with
    | .negSucc m, _ =>
      have e : toString (Int.negSucc m) = "-" ++ Nat.repr (m + 1) := rfl
      rw [e, Str.ofString_eq_toList]
      show (List.map Char.toNat ("-" ++ (m + 1).repr).toList).toArray.toList = _
      rw [String.toList_append, List.map_append, Nat.toList_repr]
      rfl
  · rw [if_neg h]
    obtain ⟨n, rfl⟩ := Int.eq_ofNat_of_zero_le (by omega : 0 ≤ i)
    exact tl_num n
theorem digs_of {z : Sy} (h : MP.digs z = true) : NumText.AllDigits z ∧ z ≠ [] := by
  unfold MP.digs at h
  rw [Bool.and_eq_true, decide_eq_true_eq, List.all_eq_true] at h
  refine ⟨fun c hc => ?_, h.1⟩
  have := h.2 c hc
  unfold MP.isDig at this
  rw [Bool.and_eq_true, decide_eq_true_eq, decide_eq_true_eq] at this
  exact this
theorem intZ_of {z : Sy} {n : Int} (h : MP.intZ z = some n) (hl : z.length ≤ 640) : intText? (sy z) = some n := by
  have e : (sy z).cps.toList = z := tl_sy z
  have hz : (sy z).length ≤ 4300 := by rw [sy_len]; omega
  cases z with
  | nil => cases h
  | cons c z =>
    have h : (if MP.digs (c :: z) = true then some ((PySem.NumText.digitsVal (c :: z) : Nat) : Int) else if c = 45 ∧ MP.digs z = true then some (-((PySem.NumText.digitsVal z : Nat) : Int)) else none) = some n := h
    by_cases q : MP.digs (c :: z) = true
    · rw [if_pos q] at h
      cases h
      obtain ⟨h1, h2⟩ := digs_of q
      have := intText_digits (x := sy (c :: z)) (by rw [e]; exact h1) (by rw [e]; exact h2) hz
      rw [this, e]
    · rw [if_neg q] at h
      by_cases q2 : c = 45 ∧ MP.digs z = true
      · rw [if_pos q2] at h
        cases h
        obtain ⟨h1, h2⟩ := digs_of q2.2
        exact intText_neg (by rw [e, q2.1]) h1 h2 hz
      · rw [if_neg q2] at h
        cases h
section
variable {X : Cx} {c : Ct} {W : WX} {pos p apos : Pos} {a b o e : Expr} {ma mb mo : MP.E} {S : Sto} {H : Hp} {J : Jm} {σ : L2.St}
theorem im_str : ImC c W MP.strO (fun xs H Q => ∃ i, xs = [.int i] ∧ i.natAbs.log2 < 1920 ∧ Q (.str (Str.ofString (toString i))) H) := by
  intro σ H J S Q ds xs rs hv p
  unfold MP.strO at p
  split at p
  · obtain ⟨v, rfl, h⟩ := one_of rfl hv
    cases h
    obtain ⟨hl, p⟩ := post_if p
    exact ⟨_, rfl, hl, post_pu rs p (by show V.str _ = V.str _; rw [num_sy])⟩
  · exact p.elim
theorem e_str1 (hg : Gl X "str") (hm : X.mg "str" = none) (ha : PE X a (tM c W ma)) (he : starEach [a] X.env = (false, eval a X.env) :: starEach [] X.env := by rfl) : PE X (.Call (.Name "str" p) [a] [] pos) (tM c W (MP.biE MP.strO (MP.consA ma MP.nilA))) :=
  e_ty call_str_int im_str hg hm PyProof.Rows.boot_str (a_cons ha a_nil he) (he := he)
theorem im_intx : ImC c W MP.intxO (fun xs H Q => ((∃ i, xs = [.int i] ∧ Q (.int i) H) ∨ ∃ k, xs = [.bl k] ∧ Q (.int (if k then 1 else 0)) H) ∨ (∃ a n, xs = [.str a] ∧ PySem.intText? a = some n ∧ a.length ≤ 640 ∧ Q (.int n) H)) := by
  intro σ H J S Q ds xs rs hv p
  unfold MP.intxO at p
  split at p
  · obtain ⟨v, rfl, h⟩ := one_of rfl hv
    cases h
    unfold MP.intK at p
    obtain ⟨hl, p⟩ := post_if p
    rename_i z _
    cases q : MP.intZ z with
    | none => simp only [q] at p; exact p.elim
    | some n =>
      simp only [q] at p
      exact .inr ⟨_, n, rfl, intZ_of q hl, by rw [sy_len]; exact hl, post_pu rs p rfl⟩
  · exact .inl (im_int rs hv p)
theorem e_intx (hg : Gl X "int") (hm : X.mg "int" = none) (ha : PE X a (tM c W ma)) (he : starEach [a] X.env = (false, eval a X.env) :: starEach [] X.env := by rfl) : PE X (.Call (.Name "int" p) [a] [] pos) (tM c W (MP.biE MP.intxO (MP.consA ma MP.nilA))) :=
  e_ty (.or call_int1 call_int_str) im_intx hg hm PyProof.Rows.boot_int (a_cons ha a_nil he) (he := he)
theorem rvs_strs : ∀ zs : List Sy, RVs c H J (zs.map .str) ((zs.map sy).map V.str)
  | [] => rfl
  | _ :: r => .cons rfl (rvs_strs r)
theorem strs_of : ∀ {ds : List D} {zs : List Sy} {xs : List V}, MP.strsOf ds = some zs → RVs c H J ds xs → xs = (zs.map sy).map V.str
  | [], _, _, e, h => by cases h; cases e; rfl
  | .str z :: r, zs, xs, e, h => by
    unfold MP.strsOf at e
    cases q : MP.strsOf r with
    | none => rw [q] at e; cases e
    | some l =>
      rw [q] at e
      cases e
      obtain ⟨v, t, rfl, h1, h2⟩ := h
      cases h1
      rw [strs_of q h2]
      rfl
  | .non :: _, _, _, e, _ => by cases e
  | .bl _ :: _, _, _, e, _ => by cases e
  | .int _ :: _, _, _, e, _ => by cases e
  | .tup _ :: _, _, _, e, _ => by cases e
  | .lst _ :: _, _, _, e, _ => by cases e
  | .dct _ _ :: _, _, _, e, _ => by cases e
  | .ref _ :: _, _, _, e, _ => by cases e
theorem strq_of {γ : Type} {rel : Hp → Jm → γ → V → Prop} {x : D} {v : V} {k : Sy → MP.M γ} {Q : VK} (rs : RS c H J S) (hv : RV c H J x v) (pp : Post c W σ rel H J Q (bd (MP.strQ x) k S)) :
    ∃ s, x = .str s ∧ v = .str (sy s) ∧ Post c W σ rel H J Q (k s S) := by
  cases x <;> try exact pp.elim
  cases hv
  exact ⟨_, rfl, rfl, pp⟩
theorem strq_ofF {x : D} {v : V} {k : Sy → MP.M (List D)} {Q : VK} (rs : RS c H J S) (hv : RV c H J x v) (pp : PostF c W σ H J Q (bd (MP.strQ x) k S)) :
    ∃ s, x = .str s ∧ v = .str (sy s) ∧ PostF c W σ H J Q (k s S) := by
  cases x <;> try exact pp.elim
  cases hv
  exact ⟨_, rfl, rfl, pp⟩
theorem e_join (hk : X.K = c.K) (ho : PE X o (tM c W mo)) (ha : PE X e (tM c W ma)) (hs : starEach [e] X.env = [(false, eval e X.env)] := by rfl) (hbase : attributeBase o "join" X.env (eval o X.env) = eval o X.env := by rfl) (hline : (apos.endLine == pos.line) = true := by rfl) :
    PE X (.Call (.Attribute o "join" apos) [e] [] pos) (tM c W (MP.joinE mo ma)) :=
  pe_imp (pe_join ho ha hs hbase hline) fun σ H Q ⟨J, env, S, r, pp⟩ =>
    tG.imp (bind (rel' := RV c) r pp) fun x H1 ⟨d, S1, J1, a1, r1, v1, p1⟩ => by
      obtain ⟨s, rfl, rfl, p1⟩ := strq_of r1.rs v1 p1
      refine ⟨⟨_, rfl⟩, tG.imp (bind (rel' := RV c) r1 p1) fun y H2 ⟨dy, S2, J2, a2, r2, v2, p2⟩ => ?_⟩
      obtain ⟨ds, t, xs, rfl, hsq, hv, p3⟩ := items_of r2.rs v2 p2
      unfold MP.joinK at p3
      cases q : MP.strsOf ds with
      | none => simp only [q] at p3; exact p3.elim
      | some zs =>
        simp only [q] at p3
        obtain ⟨hl, p4⟩ := post_if p3
        have e2 := strs_of q hv
        subst e2
        refine ⟨_, t, zs.map sy, rfl, rfl, by rw [← hk] at hsq; exact hsq, ?_, post_pu r2.rs p4 ?_⟩
        · have e1 : ((zs.map sy).map (·.length)) = zs.map (·.length) := by
            rw [List.map_map]
            exact List.map_congr_left fun z _ => sy_len z
          rw [e1, List.length_map, sy_len]
          exact hl
        · show V.str _ = V.str _
          congr 1
          refine sy_of ?_
          rw [join_eq, tl_join, tl_sy, List.map_map]
          congr 1
          have : (tl ∘ sy) = id := by funext z; exact tl_sy z
          rw [this, List.map_id]
theorem f_spl (ho : PE X o (tM c W mo)) (ha : PE X e (tM c W ma)) (hs : starEach [e] X.env = [(false, eval e X.env)] := by rfl) (hbase : attributeBase o "split" X.env (eval o X.env) = eval o X.env := by rfl) (hline : (apos.endLine == pos.line) = true := by rfl) :
    PE X (.Call (.Attribute o "split" apos) [e] [] pos) (tF c W (MP.splF mo ma)) :=
  pe_imp (pe_split ho ha hs hbase hline) fun σ H Q ⟨J, env, S, r, pp⟩ =>
    tG.imp (bindF (rel' := RV c) r pp) fun x H1 ⟨d, S1, J1, a1, r1, v1, p1⟩ => by
      obtain ⟨z, rfl, rfl, p1⟩ := strq_ofF r1.rs v1 p1
      refine ⟨⟨_, rfl⟩, tG.imp (bindF (rel' := RV c) r1 p1) fun y H2 ⟨dy, S2, J2, a2, r2, v2, p2⟩ => ?_⟩
      obtain ⟨p, rfl, rfl, p2⟩ := strq_ofF r2.rs v2 p2
      unfold MP.splK at p2
      by_cases q : p ≠ [] ∧ p.all (· < 256) = true ∧ z.length + 2 ≤ LIM
      · rw [if_pos q] at p2
        have ep : tl (sy p) = p := tl_sy p
        have hk : (sy p).cps.all (· < 256) = true := by
          rw [← Array.all_toList]
          show (tl (sy p)).all _ = true
          rw [ep]; exact q.2.1
        refine ⟨_, _, rfl, rfl, ?_, by rw [sy_len, lim_line]; exact q.2.2, fun t ht => newPost r2.rs p2 ?_ ht⟩
        · rw [sy_len]
          cases p with
          | nil => exact absurd rfl q.1
          | cons _ _ => rfl
        · have e := split_spl (sy z) (sy p) (by rw [ep]; exact q.1) (kind_ok hk)
          rw [ep, tl_sy] at e
          have e2 : Txt.split (sy z) (sy p) = (spl p 0 [] z).map sy := by
            rw [← e, List.map_map]
            have : (sy ∘ tl) = id := by funext x; exact sy_tl x
            rw [this, List.map_id]
          rw [e2]
          exact rvs_strs _
      · rw [if_neg q] at p2
        exact p2.elim
theorem pre_sub (z p : Sy) : Builtin.Str.subAt (sy z) (sy p) 0 = pre p z := by
  rw [PySem.StrLaws.subAt_eq]
  show (((tl (sy z)).drop 0).take (sy p).length == tl (sy p)) = _
  rw [tl_sy, tl_sy, sy_len, List.drop_zero]
  rfl
theorem rmp_eq (z p : Sy) : Txt.removeprefix (sy z) (sy p) = sy (if pre p z = true then z.drop p.length else z) := by
  unfold Txt.removeprefix
  rw [pre_sub]
  cases q : pre p z with
  | false => rfl
  | true =>
    simp only [if_true]
    unfold Txt.affix
    simp only [sy_len]
    by_cases h : z.length - p.length = z.length
    · rw [if_pos (beq_iff_eq.mpr h)]
      have hp : p.length ≤ z.length := by
        have := PySem.StrLaws.subAt_zero_le (x := sy z) (y := sy p) (by rw [pre_sub]; exact q)
        rwa [sy_len, sy_len] at this
      have : p.length = 0 := by omega
      rw [this, List.drop_zero]
    · rw [if_neg (by simpa using h)]
      apply sy_of
      have := tl_strSub_end (sy z) p.length
      rw [sy_len, tl_sy] at this
      exact this
theorem e_rmp (ho : PE X o (tM c W mo)) (ha : PE X e (tM c W ma)) (hs : starEach [e] X.env = [(false, eval e X.env)] := by rfl) (hbase : attributeBase o "removeprefix" X.env (eval o X.env) = eval o X.env := by rfl) (hline : (apos.endLine == pos.line) = true := by rfl) :
    PE X (.Call (.Attribute o "removeprefix" apos) [e] [] pos) (tM c W (MP.rmpE mo ma)) :=
  pe_imp (pe_m1 F.slot_str_removeprefix F.type_str_removeprefix mt_removeprefix ho ha hs hbase hline) fun σ H Q ⟨J, env, S, r, pp⟩ =>
    tG.imp (bind (rel' := RV c) r pp) fun x H1 ⟨d, S1, J1, a1, r1, v1, p1⟩ => by
      obtain ⟨z, rfl, rfl, p1⟩ := strq_of r1.rs v1 p1
      refine ⟨⟨_, rfl⟩, tG.imp (bind (rel' := RV c) r1 p1) fun y H2 ⟨dy, S2, J2, a2, r2, v2, p2⟩ => ?_⟩
      obtain ⟨p, rfl, rfl, p2⟩ := strq_of r2.rs v2 p2
      obtain ⟨hl, p3⟩ := post_if p2
      exact ⟨_, _, rfl, rfl, by rw [sy_len, lim_line]; exact hl, post_pu r2.rs p3 (by show V.str _ = V.str _; rw [rmp_eq])⟩
theorem src_str {z : Sy} {f : Sto → Bool} : SrcAt c H J (z.map fun k => D.str [k], f) (Its (sy z)) := fun H1 J1 S1 af _ => by
  have hl : (z.map fun k => D.str [k]).length = z.length := by simp
  have hs : (sy z).cps.size = z.length := by simp [sy]
  refine ⟨fun i hi => ?_, by show (sy z).cps.size ≤ _; rw [hl, hs]; exact Nat.le_refl _⟩
  have hi : i < z.length := by rw [← hl]; exact hi
  refine ⟨by show i < (sy z).cps.size; rw [hs]; exact hi, fun x H2 ⟨e2, k, hk, y⟩ => ?_⟩
  subst e2 y
  have hk2 : z[i]? = some k := by simpa [sy] using hk
  exact ⟨.str [k], by simp [hk2], .refl af.rs, rfl, fun _ _ e => e⟩
theorem s_str (ha : PE X a (tM c W ma)) (hk : X.K = c.K) {tg : Expr} : PI X tg a (tI c W (MP.strS ma)) := by
  refine ⟨fun pins s σ H R I ⟨J, env, S, r, q⟩ => (pi_str ha).run pins s σ H R I ?_⟩
  exact tG.imp (bind (rel' := RV c) r q) fun x H1 ⟨d, S1, J1, a1, r1, v1, p1⟩ => by
    cases d <;> try exact p1.elim
    cases v1
    exact ⟨_, rfl, p1 _ H1 J1 (.refl r1.rs) src_str⟩
theorem rvs_rep {ds : List D} {xs : List V} (h : RVs c H J ds xs) : ∀ n : Nat, RVs c H J (List.replicate n ds).flatten (List.replicate n xs).flatten
  | 0 => rfl
  | n + 1 => by
    rw [List.replicate_succ, List.flatten_cons, List.replicate_succ, List.flatten_cons]
    exact h.app (rvs_rep h n)
theorem f_rep (ha : PE X a (tM c W ma)) (hb : PE X b (tM c W mb)) : PE X (.BinOp a .Mult b pos) (tF c W (MP.repF ma mb)) := pe_imp (pe_op op_rep ha hb) fun σ H Q ⟨J, env, S, r, pp⟩ =>
  tG.imp (bindF (rel' := RV c) r pp) fun x H1 ⟨d, S1, J1, a1, r1, v1, p1⟩ => tG.imp (bindF (rel' := RV c) r1 p1) fun y H2 ⟨dy, S2, J2, a2, r2, v2, p2⟩ => by
    obtain ⟨n, xs, ds, rfl, rfl, hl, hv, p3⟩ := lstq_ofF r2.rs (v1.aft a2) p2
    cases dy <;> try exact p3.elim
    rename_i k
    cases v2
    have p3 : PostF c W σ H2 J2 Q ((if 0 ≤ k ∧ k ≤ 1000 ∧ ds.length ≤ 1000 then pu (List.replicate k.toNat ds).flatten else no) S2) := p3
    by_cases q : 0 ≤ k ∧ k ≤ 1000 ∧ ds.length ≤ 1000
    · rw [if_pos q] at p3
      have hm : ds.length * k.toNat ≤ 1000 * 1000 := Nat.mul_le_mul q.2.2 (by omega)
      exact ⟨_, _, xs, rfl, rfl, hl, by omega, by omega, by rw [← hv.length, sizeLine_eq]; omega, fun t ht => newPost r2.rs p3 (rvs_rep hv _) ht⟩
    · rw [if_neg q] at p3
      exact p3.elim
end
end MS
namespace MP
/-- xs[::-1]: a new list -/
def revK (ds : List D) : M (List D) := pu ds.reverse
def revF (a : E) : Es := fun e => bd (a e) fun x => bd (litO x) revK
end MP
namespace MS
open PySem PySem.Spec PyProof.Rows L2 TL
open MP (Sy D Cn Ob Sto R En bd pu no rz nx LIM)
theorem RVs.rev {c : Ct} {H : Hp} {J : Jm} : ∀ {ds : List D} {vs : List V}, RVs c H J ds vs → RVs c H J ds.reverse vs.reverse
  | [], _, h => by cases h; rfl
  | d :: r, _, h => by
    obtain ⟨v, t, rfl, h1, h2⟩ := h
    rw [List.reverse_cons, List.reverse_cons]
    exact (RVs.rev h2).app (.cons h1 .nil)
section
variable {X : Cx} {c : Ct} {W : WX} {a : Expr} {ma : MP.E}
theorem f_rev {k : Nat} {p1 p2 p3 pos : Pos} (hk : X.K = c.K) (ha : PE X a (tM c W ma)) : PE X (.Subscript a (.Slice none none (some (.UnaryOp .USub (.Constant (.int 1) k p1) p2)) p3) pos) (tF c W (MP.revF ma)) :=
  pe_imp (pe_revL ha) fun σ H Q ⟨J, env, S, r, p⟩ =>
    tG.imp (bindF (rel' := RV c) r p) fun x H1 ⟨d, S1, J1, a1, r1, v1, p1⟩ => by
      rw [hk]
      cases d with
      | lst es =>
        obtain ⟨t, ys, rfl, h1, h2⟩ := v1
        have p1 : PostF c W σ H1 J1 Q (MP.revK es S1) := p1
        exact ⟨t, ys, rfl, h1.sq, fun l hl => newPost r1.rs p1 (RVs.rev h2) hl⟩
      | ref n =>
        obtain ⟨_, rfl⟩ := v1
        have p1 : PostF c W σ H1 J1 Q (bd (fun s => match s[n]? with | some ⟨_, .lst xs⟩ => R.ok xs s | _ => R.bad) MP.revK S1) := p1
        unfold bd at p1
        cases e : S1[n]? with
        | none => simp only [e] at p1; exact p1.elim
        | some o =>
          obtain ⟨w, o⟩ := o
          cases o <;> simp only [e] at p1 <;> try exact p1.elim
          obtain ⟨⟨xs, g1, g2⟩, _⟩ := r1.rs.ob n _ e
          exact ⟨_, xs, rfl, .inl (.inl g1), fun l hl => newPost r1.rs p1 (RVs.rev g2) hl⟩
      | _ => exact p1.elim
end
end MS
namespace MP
/-- a row of numbers as a key: not the empty one -/
def keyOf : D → Option (List Int)
  | .tup (d :: r) => intOf (d :: r)
  | _ => none
def dval (kvs : List (List Int × D)) (k : List Int) : Option D := (kvs.find? fun p => decide (p.1 = k)).map (·.2)
def dset (kvs : List (List Int × D)) (k : List Int) (v : D) : List (List Int × D) :=
  if (kvs.any fun p => decide (p.1 = k)) = true then kvs.map (fun p => if p.1 = k then (p.1, v) else p) else kvs ++ [(k, v)]
/-- a dict of the store, read -/
def dicQ : D → M (List (List Int × D))
  | .ref n => fun s => match s[n]? with
    | some ⟨true, .dct kvs⟩ => .ok kvs s
    | _ => .bad
  | _ => no
def keyQ (y : D) : M (List Int) := match keyOf y with
  | some k => pu k
  | none => no
/-- d[k] -/
def dgK (k : List Int) (kvs : List (List Int × D)) : M D := match dval kvs k with
  | some v => pu v
  | none => no
def dgetO (x y : D) : M D := bd (keyQ y) fun k => bd (dicQ x) (dgK k)
def dgetE (a b : E) : E := fun e => bd (a e) fun x => bd (b e) fun y => dgetO x y
/-- d.get(k, x) -/
def dg2O (x y z : D) : M D := bd (keyQ y) fun k => bd (dicQ x) fun kvs => pu ((dval kvs k).getD z)
def dgt2E (o a b : E) : E := fun e => bd (o e) fun x => bd (dicQ x) fun _ => bd (a e) fun y => bd (b e) fun z => dg2O x y z
/-- d[k] = v -/
def dputK (x : D) (k : List Int) (v : D) (kvs : List (List Int × D)) : M D := match x with
  | .ref n => fun s => if kvs.length < LIM then .ok .non (s.set n ⟨true, .dct (dset kvs k v)⟩) else .bad
  | _ => no
def dputO (x y v : D) : M D := bd (keyQ y) fun k => bd (dicQ x) (dputK x k v)
def dputS (o i v : E) : St := ev v fun d => ev o fun a => ev i fun b => ev (fun _ => dputO a b d) fun _ => nxS
/-- d[k] op= v -/
def daugS (op : D → D → M D) (o i v : E) : St := ev o fun a => ev i fun b => ev (fun _ => dgetO a b) fun u => ev v fun d => ev (fun _ => op u d) fun z => ev (fun _ => dputO a b z) fun _ => nxS
def ndctE : E := fun _ => newO (.dct [])
end MP
namespace MS
open PySem PySem.Spec PyProof.Rows L2 TL
open MP (Sy D Cn Ob Sto R En bd pu no rz nx LIM)
end MS
namespace MP
/-- op= on numbers -/
def addI : D → D → M D
  | .int i, .int j => pu (.int (i + j))
  | .tup x, .tup y => if x.length + y.length ≤ LIM then pu (.tup (x ++ y)) else no
  | _, _ => no
def subI : D → D → M D
  | .int i, .int j => pu (.int (i - j))
  | _, _ => no
def mulI : D → D → M D
  | .int i, .int j => if mulOk i j then pu (.int (i * j)) else no
  | _, _ => no
end MP
namespace MS
open PySem PySem.Spec PyProof.Rows L2 HT
end MS
namespace MS
open PySem PySem.Spec PyProof.Rows L2 TL
open MP (Sy D Cn Ob Sto R En bd pu no rz nx LIM)
end MS
namespace MP
def chk (ok : Sto → Bool) : M Unit := fun s => if ok s = true then .ok () s else .bad
def cmp2L (tg : Tg) (t : T) (src1 : Src) (tg1 : Tg) (t1 : T) (elt : E) (vs1 : List Nat) (ok : Sto → Bool) (e : En) : List D → M (List D)
  | [] => pu []
  | d :: r => fun s => if ok s = true then (match tg.put d e with
    | some e' => bd (nx (t e')) (fun b => if b = true then bd (nx (src1 e')) (fun p => bd (compL tg1 t1 elt p.2 (wipeE e' vs1) p.1) fun xs => bd (chk p.2) fun _ => bd (cmp2L tg t src1 tg1 t1 elt vs1 ok e r) fun ys => pu (xs ++ ys)) else cmp2L tg t src1 tg1 t1 elt vs1 ok e r) s
    | none => .bad) else .bad
def cmp2F (src : Src) (tg : Tg) (t : T) (src1 : Src) (tg1 : Tg) (t1 : T) (elt : E) (vs vs1 : List Nat) : Es := fun e => bd (src e) fun p => bd (cmp2L tg t src1 tg1 t1 elt vs1 p.2 (wipeE e vs) p.1) fun xs => fun s =>
  if p.2 s && decide (xs.length ≤ LIM) then .ok xs s else .bad
end MP
namespace MS
open PySem PySem.Spec PyProof.Rows L2 TL RT
open MP (Sy D Cn Ob Sto R En bd pu no rz nx LIM)
end MS
namespace MP
/-- reversed(row) -/
def revS (a : E) : Src := fun e => bd (a e) fun d => match d with
  | .tup xs => pu (xs.reverse, fun _ => true)
  | _ => no
/-- a, b = x, y with plain local names -/
def parS (i j : Nat) (a : Es) : St := ev a fun xs e s => match xs with
  | [x, y] => .nx ((e.set i (.va x)).set j (.va y)) s
  | _ => .bad
/-- xs.reverse() -/
def rvmE (o : E) : E := fun e => bd (o e) (mutL fun ds => some ds.reverse)
end MP
namespace MS
open PySem PySem.Spec PyProof.Rows L2 TL RT
open MP (Sy D Cn Ob Sto R En bd pu no rz nx LIM)
end MS
namespace MP
/-- x in l, items of any depth -/
def anyD (neg : Bool) (x y : D) : M D := fun s => match deepO s x, deepO s y with
  | some a, some (.lst ys) => if shp 59 a && shps 59 ys then .ok (.bl (if neg then !ys.any fun z => pyEq z a else ys.any fun z => pyEq z a)) s else .bad
  | _, _ => .bad
def inDO (x y : D) : M D := anyD false x y
def notinDO (x y : D) : M D := anyD true x y
/-- l.index(x) -/
def lixO (y x : D) : M D := fun s => match deepO s y, deepO s x with
  | some (.lst ys), some a => if shp 59 a && shps 59 ys then (match ys.findIdx? fun z => pyEq z a with
    | some j => .ok (.int (j : Nat)) s
    | none => .bad) else .bad
  | _, _ => .bad
def lixE (o a : E) : E := fun e => bd (o e) fun d => match d with
  | .lst ys => bd (a e) fun x => lixO (.lst ys) x
  | _ => no
/-- sorted rows of numbers -/
def allR : List D → Option (List (List Int))
  | [] => some []
  | .tup xs :: r => match allZ xs with
    | some (z :: zs) => (allR r).map ((z :: zs) :: ·)
    | _ => none
  | _ :: _ => none
def srtR (l : List (List Int)) : List (List Int) := l.mergeSort fun a b => decide (a ≤ b)
def srtRK (ds : List D) : M (List D) := match allR ds with
  | some ms => if ms.length ≤ LIM then pu ((srtR ms).map fun r => .tup (r.map .int)) else no
  | none => no
def srtRF (a : E) : Es := fun e => bd (a e) fun d => match d with
  | .tup _ => no
  | d => bd (itemsO d) srtRK
end MP
namespace L2
open PySem
end L2
namespace MS
open PySem PySem.Spec PyProof.Rows L2
open MP (Sy D Cn Ob Sto R En bd pu no rz nx LIM)
end MS
namespace MS
open PySem PySem.Spec PyProof.Rows L2
open MP (Sy D Cn Ob Sto R En bd pu no rz nx LIM)
end MS
namespace MP
def extO (x : D) (ys : List D) : M D := mutL (fun xs => if xs.length + ys.length ≤ LIM then some (xs ++ ys) else none) x
/-- xs.extend(ys), of a list -/
def extE (o a : E) : E := fun e => bd (o e) fun d => bd (lstQ d) fun _ => bd (a e) fun y => bd (litO y) (extO d)
def pop0O (x : D) : M D := match x with
  | .ref n => fun s => match s[n]? with
    | some ⟨true, .lst xs⟩ => if xs.length ≤ LIM then (match xs[xs.length - 1]? with
      | some d => .ok d (s.set n ⟨true, .lst xs.dropLast⟩)
      | none => .bad) else .bad
    | _ => .bad
  | _ => no
/-- xs.pop() -/
def pop0E (o : E) : E := fun e => bd (o e) fun d => bd (lstQ d) fun _ => pop0O d
/-- xs.clear() -/
def clrE (o : E) : E := fun e => bd (o e) fun d => mutL (fun _ => some []) d
def augK (i : Int) (xs : List D) : M D := if 0 ≤ i ∧ i < (xs.length : Int) ∧ xs.length ≤ LIM then (match xs[i.toNat]? with
  | some d => pu d
  | none => no) else no
def augL (x y : D) : M D := match y with
  | .int i => bd (lstQ x) (augK i)
  | _ => no
/-- o[i] op= v, of a list of the store -/
def laugS (op : D → D → M D) (o i v : E) : St := ev o fun a => ev i fun b => ev (fun _ => augL a b) fun u => ev v fun d => ev (fun _ => op u d) fun z => ev (fun _ => putO a b z) fun _ => nxS
/-- x is not True, of bools -/
def isntBO : D → D → M D
  | .bl a, .bl b => pu (.bl (!decide (a = b)))
  | _, _ => no
def dRow (lo : Int) (n : Nat) : List D := (List.range n).map fun i => .int (lo - (i : Nat))
/-- range(a, b, -1) -/
def rngD (a b : E) : Src := fun e => bd (a e) fun d => bd (b e) fun d' => match d, d' with
  | .int lo, .int hi => if -B62 ≤ lo ∧ lo < B62 ∧ -B62 ≤ hi ∧ hi < B62 then pu (dRow lo (lo - hi).toNat, fun _ => true) else no
  | _, _ => no
end MP
namespace MS
open PySem PySem.Spec PyProof.Rows L2 TL
open MP (Sy D Cn Ob Sto R En bd pu no rz nx LIM)
section
variable {X : Cx} {c : Ct} {W : WX} {o e i : Expr} {mo ma mi : MP.E}
theorem RVs.dropLast {H : Hp} {J : Jm} {ds : List D} {vs : List V} (h : RVs c H J ds vs) : RVs c H J ds.dropLast vs.dropLast := by
  rw [List.dropLast_eq_take, List.dropLast_eq_take, h.length]
  exact h.take _
end
end MS
namespace ML
open MP (D Cn Ob Sto R M En Sl)
def drA : MP.St := (MP.ifS (MP.andT (MP.tb (MP.binE MP.ltO (MP.binE MP.idxO (MP.vE 0) (MP.cE (.int 2))) (MP.vE 1))) (MP.tb (MP.binE MP.ltO (MP.binE MP.idxO (MP.vE 0) (MP.cE (.int 1))) (MP.biE MP.lenO (MP.consA (MP.binE MP.idxO (MP.vE 0) (MP.cE (.int 0))) MP.nilA))))) (MP.seq (MP.setS 2 (MP.binE MP.idxO (MP.binE MP.idxO (MP.vE 0) (MP.cE (.int 0))) (MP.binE MP.idxO (MP.vE 0) (MP.cE (.int 1)))))
    (MP.seq (MP.putS (MP.vE 0) (MP.cE (.int 1)) (MP.binE MP.addO (MP.binE MP.idxO (MP.vE 0) (MP.cE (.int 1))) (MP.cE (.int 1))))
    (MP.seq (MP.putS (MP.vE 0) (MP.cE (.int 2)) (MP.cE (.int 0)))
    (MP.ifS (MP.tb (MP.binE MP.geO (MP.vE 2) (MP.binE MP.powO (MP.cE (.int 10)) (MP.cE (.int 18))))) (MP.putS (MP.vE 0) (MP.cE (.int 2)) (MP.vE 2)) (MP.putS (MP.vE 0) (MP.cE (.int 3)) (MP.binE MP.modO (MP.binE MP.addO (MP.binE MP.addO (MP.binE MP.mulO (MP.binE MP.idxO (MP.vE 0) (MP.cE (.int 3))) (MP.cE (.int 48271))) (MP.binE MP.mulO (MP.binE MP.modO (MP.vE 2) (MP.cE (.int 1000000007))) (MP.cE (.int 69621)))) (MP.cE (.int 11))) (MP.cE (.int 2147483647)))))))) MP.nxS)
def drB : MP.St := (MP.ifS (MP.tb (MP.binE MP.geO (MP.binE MP.idxO (MP.vE 0) (MP.cE (.int 2))) (MP.vE 1))) (MP.seq (MP.setS 3 (MP.binE MP.modO (MP.binE MP.idxO (MP.vE 0) (MP.cE (.int 2))) (MP.vE 1)))
    (MP.seq (MP.putS (MP.vE 0) (MP.cE (.int 2)) (MP.binE MP.fdivO (MP.binE MP.idxO (MP.vE 0) (MP.cE (.int 2))) (MP.vE 1)))
    (MP.retS (MP.vE 3)))) MP.nxS)
def drC : MP.St := (MP.seq (MP.putS (MP.vE 0) (MP.cE (.int 4)) (MP.binE MP.addO (MP.binE MP.idxO (MP.vE 0) (MP.cE (.int 4))) (MP.cE (.int 1))))
    (MP.seq (MP.setS 4 (MP.binE MP.idxO (MP.vE 0) (MP.cE (.int 3))))
    (MP.seq (MP.setS 4 (MP.binE MP.addO (MP.binE MP.addO (MP.binE MP.addO (MP.binE MP.mulO (MP.binE MP.modO (MP.binE MP.mulO (MP.vE 4) (MP.vE 4)) (MP.cE (.int 2147483587))) (MP.cE (.int 16807))) (MP.binE MP.mulO (MP.vE 4) (MP.cE (.int 48271)))) (MP.binE MP.mulO (MP.cE (.int 97)) (MP.binE MP.idxO (MP.vE 0) (MP.cE (.int 4))))) (MP.cE (.int 12345))))
    (MP.seq (MP.putS (MP.vE 0) (MP.cE (.int 3)) (MP.binE MP.modO (MP.vE 4) (MP.cE (.int 2147483647))))
    (MP.retS (MP.binE MP.modO (MP.binE MP.addO (MP.binE MP.fdivO (MP.binE MP.idxO (MP.vE 0) (MP.cE (.int 3))) (MP.cE (.int 64))) (MP.binE MP.mulO (MP.binE MP.modO (MP.binE MP.idxO (MP.vE 0) (MP.cE (.int 3))) (MP.cE (.int 4093))) (MP.cE (.int 31)))) (MP.vE 1)))))))
def draw : List D → M D := MP.fn 2 5 (MP.seq drA (MP.seq drB drC))
/-- the feed stands at n: its content -/
def fd (cells : List Int) (a b c d : Int) : Ob := ⟨true, .lst [.lst (cells.map .int), .int a, .int b, .int c, .int d]⟩
section
variable {n : Nat} {S : Sto} {cells : List Int} {a b c d : Int}
/-- the feed's items, read -/
theorem idx0 (h : S[n]? = some (fd cells a b c d)) : MP.idxO (.ref n) (.int 0) S = .ok (.lst (cells.map .int)) S := by
  simp [MP.idxO, MP.idxI, MP.itemsO, MP.bd, h, fd, MP.idxSeq, MP.ixO, MP.pu]
theorem idx1 (h : S[n]? = some (fd cells a b c d)) : MP.idxO (.ref n) (.int 1) S = .ok (.int a) S := by
  simp [MP.idxO, MP.idxI, MP.itemsO, MP.bd, h, fd, MP.idxSeq, MP.ixO, MP.pu]
theorem idx2 (h : S[n]? = some (fd cells a b c d)) : MP.idxO (.ref n) (.int 2) S = .ok (.int b) S := by
  simp [MP.idxO, MP.idxI, MP.itemsO, MP.bd, h, fd, MP.idxSeq, MP.ixO, MP.pu]
theorem idx3 (h : S[n]? = some (fd cells a b c d)) : MP.idxO (.ref n) (.int 3) S = .ok (.int c) S := by
  simp [MP.idxO, MP.idxI, MP.itemsO, MP.bd, h, fd, MP.idxSeq, MP.ixO, MP.pu]
theorem idx4 (h : S[n]? = some (fd cells a b c d)) : MP.idxO (.ref n) (.int 4) S = .ok (.int d) S := by
  simp [MP.idxO, MP.idxI, MP.itemsO, MP.bd, h, fd, MP.idxSeq, MP.ixO, MP.pu]
theorem put1 (h : S[n]? = some (fd cells a b c d)) (x : Int) : MP.putO (.ref n) (.int 1) (.int x) S = .ok .non (S.set n (fd cells x b c d)) := by
  simp [MP.putO, MP.mutL, h, fd, MP.ixO, MP.LIM]
theorem put2 (h : S[n]? = some (fd cells a b c d)) (x : Int) : MP.putO (.ref n) (.int 2) (.int x) S = .ok .non (S.set n (fd cells a x c d)) := by
  simp [MP.putO, MP.mutL, h, fd, MP.ixO, MP.LIM]
theorem put3 (h : S[n]? = some (fd cells a b c d)) (x : Int) : MP.putO (.ref n) (.int 3) (.int x) S = .ok .non (S.set n (fd cells a b x d)) := by
  simp [MP.putO, MP.mutL, h, fd, MP.ixO, MP.LIM]
theorem put4 (h : S[n]? = some (fd cells a b c d)) (x : Int) : MP.putO (.ref n) (.int 4) (.int x) S = .ok .non (S.set n (fd cells a b c x)) := by
  simp [MP.putO, MP.mutL, h, fd, MP.ixO, MP.LIM]
end
theorem mulOk_of {i j : Int} (hi : i.natAbs < 2 ^ 400) (hj : j.natAbs < 2 ^ 400) : MP.mulOk i j = true := by
  have l : ∀ x : Nat, x < 2 ^ 400 → x.log2 < 401 := fun x hx => by
    by_cases z : x = 0
    · subst z; decide
    · exact Nat.lt_succ_of_lt ((Nat.log2_lt z).mpr hx)
  have := l _ hi
  have := l _ hj
  unfold MP.mulOk
  exact decide_eq_true (by omega)
theorem set_same {S : Sto} {n : Nat} {o : Ob} (h : S[n]? = some o) : S.set n o = S := by
  apply List.ext_getElem?
  intro i
  by_cases e : n = i
  · subst e
    have hn : n < S.length := by
      rcases Nat.lt_or_ge n S.length with q | q
      · exact q
      · rw [List.getElem?_eq_none q] at h; cases h
    rw [List.getElem?_set_self hn, h]
  · rw [List.getElem?_set_ne e]
theorem lt_of_some {S : Sto} {n : Nat} {o : Ob} (h : S[n]? = some o) : n < S.length := by
  rcases Nat.lt_or_ge n S.length with q | q
  · exact q
  · rw [List.getElem?_eq_none q] at h; cases h
theorem p1018 : (10 : Int) ^ 18 = 1000000000000000000 := by decide
theorem mul_le {i j : Int} (hi : i.natAbs < 2 ^ 400 := by omega) (hj : j.natAbs < 2 ^ 400 := by omega) : MP.mulO (.int i) (.int j) = MP.pu (.int (i * j)) := by
  simp [MP.mulO, mulOk_of hi hj]
theorem mod_pos {i j : Int} (hj : 0 < j := by omega) : MP.modO (.int i) (.int j) = MP.pu (.int (i % j)) := by
  simp [MP.modO, hj]
theorem drA_ok {n : Nat} {S : Sto} {cells : List Int} {a b c d many : Int} (h : S[n]? = some (fd cells a b c d)) (ha : 0 ≤ a) (hb : 0 ≤ b) (hc : 0 ≤ c) (hc2 : c < 2147483647) :
    ∃ v a' b' c', drA [.va (.ref n), .va (.int many), .un, .un, .un] S = .nx [.va (.ref n), .va (.int many), v, .un, .un] (S.set n (fd cells a' b' c' d)) ∧ 0 ≤ a' ∧ 0 ≤ b' ∧ 0 ≤ c' ∧ c' < 2147483647 := by
  have hn := lt_of_some h
  have hs : ∀ o, (S.set n o)[n]? = some o := fun o => List.getElem?_set_self hn
  unfold drA
  by_cases q1 : b < many
  · by_cases q2 : a < cells.length
    · obtain ⟨x, hx⟩ : ∃ x, cells[a.toNat]? = some x := ⟨_, List.getElem?_eq_getElem (by omega)⟩
      have e1 : MP.idxO (.lst (cells.map .int)) (.int a) S = .ok (.int x) S := by
        simp [MP.idxO, MP.idxI, MP.itemsO, MP.bd, MP.idxSeq, MP.ixO, MP.pu, ha, q2, hx]
        exact (List.getElem?_eq_some_iff.mp hx).2
      by_cases q4 : 1000000000000000000 ≤ x
      · refine ⟨.va (.int x), a + 1, x, c, ?_, by omega, by omega, hc, hc2⟩
        simp [MP.ifS, MP.ev, MP.andT, MP.tb, MP.binE, MP.vE, MP.cE, MP.bd, MP.pu, idx0 h, idx1 h, idx2 h, MP.ltO, MP.blO, q1, q2, MP.biE, MP.lenO, MP.len1, MP.consA, MP.nilA, MP.itemsO, MP.seq, MP.setS, e1, MP.putS, MP.addO, put1 h, put2 (hs _), MP.nxS, MP.geO, MP.powO, p1018, q4, List.set_set]
      · have e2 : MP.mulO (.int c) (.int 48271) = MP.pu (.int (c * 48271)) := mul_le
        have e3 : MP.modO (.int x) (.int 1000000007) = MP.pu (.int (x % 1000000007)) := mod_pos
        have e4 : MP.mulO (.int (x % 1000000007)) (.int 69621) = MP.pu (.int (x % 1000000007 * 69621)) := mul_le
        have e5 : MP.modO (.int (c * 48271 + x % 1000000007 * 69621 + 11)) (.int 2147483647) = MP.pu (.int ((c * 48271 + x % 1000000007 * 69621 + 11) % 2147483647)) := mod_pos
        refine ⟨.va (.int x), a + 1, 0, (c * 48271 + x % 1000000007 * 69621 + 11) % 2147483647, ?_, by omega, by omega, by omega, by omega⟩
        simp [MP.ifS, MP.ev, MP.andT, MP.tb, MP.binE, MP.vE, MP.cE, MP.bd, MP.pu, idx0 h, idx1 h, idx2 h, MP.ltO, MP.blO, q1, q2, MP.biE, MP.lenO, MP.len1, MP.consA, MP.nilA, MP.itemsO, MP.seq, MP.setS, e1, MP.putS, MP.addO, put1 h, put2 (hs _), MP.nxS, MP.geO, MP.powO, p1018, q4, List.set_set, idx3 (hs _), e2, e3, e4, e5, put3 (hs _)]
    · refine ⟨.un, a, b, c, ?_, ha, hb, hc, hc2⟩
      rw [set_same h]
      simp [MP.ifS, MP.ev, MP.andT, MP.tb, MP.binE, MP.vE, MP.cE, MP.bd, MP.pu, idx0 h, idx1 h, idx2 h, MP.ltO, MP.blO, q1, q2, MP.biE, MP.lenO, MP.len1, MP.consA, MP.nilA, MP.itemsO, MP.nxS]
  · refine ⟨.un, a, b, c, ?_, ha, hb, hc, hc2⟩
    rw [set_same h]
    simp [MP.ifS, MP.ev, MP.andT, MP.tb, MP.binE, MP.vE, MP.cE, MP.bd, MP.pu, idx2 h, MP.ltO, MP.blO, q1, MP.nxS]
theorem drC_ok {n : Nat} {S : Sto} {cells : List Int} {a b c d many : Int} {v : Sl} (h : S[n]? = some (fd cells a b c d)) (hc : 0 ≤ c) (hc2 : c < 2147483647) (hd : 0 ≤ d) (hd2 : d < 2 ^ 300) (hm : 0 < many) :
    ∃ r c', drC [.va (.ref n), .va (.int many), v, .un, .un] S = .rt (.int r) (S.set n (fd cells a b c' (d + 1))) ∧ 0 ≤ r ∧ r < many ∧ 0 ≤ c' ∧ c' < 2147483647 := by
  have hn := lt_of_some h
  have hs : ∀ o, (S.set n o)[n]? = some o := fun o => List.getElem?_set_self hn
  have hcc : 0 ≤ c * c := Int.mul_nonneg hc hc
  have e1 : MP.mulO (.int c) (.int c) = MP.pu (.int (c * c)) := mul_le
  have e2 : MP.modO (.int (c * c)) (.int 2147483587) = MP.pu (.int (c * c % 2147483587)) := mod_pos
  have e3 : MP.mulO (.int (c * c % 2147483587)) (.int 16807) = MP.pu (.int (c * c % 2147483587 * 16807)) := mul_le
  have e4 : MP.mulO (.int c) (.int 48271) = MP.pu (.int (c * 48271)) := mul_le
  have e5 : MP.mulO (.int 97) (.int (d + 1)) = MP.pu (.int (97 * (d + 1))) := mul_le (by omega) (by omega)
  generalize hx : c * c % 2147483587 * 16807 + c * 48271 + 97 * (d + 1) + 12345 = x
  have e6 : MP.modO (.int x) (.int 2147483647) = MP.pu (.int (x % 2147483647)) := mod_pos
  generalize hy : x % 2147483647 = y at e6
  have hy1 : 0 ≤ y ∧ y < 2147483647 := by omega
  have e7 : MP.fdivO (.int y) (.int 64) = MP.pu (.int (y / 64)) := by
    unfold MP.fdivO
    simp only
    rw [if_pos ⟨by decide, by decide⟩]
  have e8 : MP.modO (.int y) (.int 4093) = MP.pu (.int (y % 4093)) := mod_pos
  have e9 : MP.mulO (.int (y % 4093)) (.int 31) = MP.pu (.int (y % 4093 * 31)) := mul_le
  have e10 : MP.modO (.int (y / 64 + y % 4093 * 31)) (.int many) = MP.pu (.int ((y / 64 + y % 4093 * 31) % many)) := mod_pos
  refine ⟨(y / 64 + y % 4093 * 31) % many, y, ?_, Int.emod_nonneg _ (by omega), Int.emod_lt_of_pos _ hm, hy1.1, hy1.2⟩
  unfold drC
  simp [MP.seq, MP.putS, MP.ev, MP.binE, MP.vE, MP.cE, MP.bd, MP.pu, MP.addO, idx4 h, put4 h, MP.nxS, MP.setS, idx3 (hs _), idx4 (hs _), put3 (hs _), e1, e2, e3, e4, e5, e6, e7, e8, e9, e10, hx, MP.retS, List.set_set]
theorem drB_ok {n : Nat} {S : Sto} {cells : List Int} {a b c d many : Int} {v : Sl} (h : S[n]? = some (fd cells a b c d)) (hb : 0 ≤ b) (hm : 0 < many) (hm2 : many < 2 ^ 300) :
    drB [.va (.ref n), .va (.int many), v, .un, .un] S = .nx [.va (.ref n), .va (.int many), v, .un, .un] S ∨ ∃ r b', drB [.va (.ref n), .va (.int many), v, .un, .un] S = .rt (.int r) (S.set n (fd cells a b' c d)) ∧ 0 ≤ r ∧ r < many ∧ 0 ≤ b' := by
  have hn := lt_of_some h
  have hs : ∀ o, (S.set n o)[n]? = some o := fun o => List.getElem?_set_self hn
  unfold drB
  by_cases q : many ≤ b
  · have e1 : MP.modO (.int b) (.int many) = MP.pu (.int (b % many)) := mod_pos
    have l : many.natAbs.log2 < 9000 := by
      have := (Nat.log2_lt (n := many.natAbs) (k := 300) (by omega)).mpr (by omega)
      omega
    have e2 : MP.fdivO (.int b) (.int many) = MP.pu (.int (b / many)) := by simp [MP.fdivO, hm, l]
    refine .inr ⟨b % many, b / many, ?_, Int.emod_nonneg _ (by omega), Int.emod_lt_of_pos _ hm, Int.ediv_nonneg hb (by omega)⟩
    simp [MP.ifS, MP.ev, MP.tb, MP.binE, MP.vE, MP.cE, MP.bd, MP.pu, idx2 h, MP.geO, MP.blO, q, MP.seq, MP.setS, e1, e2, MP.putS, put2 h, MP.nxS, MP.retS]
  · refine .inl ?_
    simp [MP.ifS, MP.ev, MP.tb, MP.binE, MP.vE, MP.cE, MP.bd, MP.pu, idx2 h, MP.geO, MP.blO, q, MP.nxS]
/-- draw: a number below many; the feed goes on, all else stays -/
theorem draw_ok {n : Nat} {S : Sto} {cells : List Int} {a b c d : Int} (h : S[n]? = some (fd cells a b c d)) (ha : 0 ≤ a) (hb : 0 ≤ b) (hc : 0 ≤ c) (hc2 : c < 2147483647) (hd : 0 ≤ d) (hd2 : d < 2 ^ 300) {many : Int} (hm : 0 < many) (hm2 : many < 2 ^ 300) :
    ∃ r a' b' c' d', draw [.ref n, .int many] S = .ok (.int r) (S.set n (fd cells a' b' c' d')) ∧ 0 ≤ r ∧ r < many ∧ 0 ≤ a' ∧ 0 ≤ b' ∧ 0 ≤ c' ∧ c' < 2147483647 ∧ d ≤ d' ∧ d' ≤ d + 1 := by
  have hn := lt_of_some h
  obtain ⟨v, a1, b1, c1, e1, h1, h2, h3, h4⟩ := drA_ok (many := many) h ha hb hc hc2
  have s1 : (S.set n (fd cells a1 b1 c1 d))[n]? = some (fd cells a1 b1 c1 d) := List.getElem?_set_self hn
  rcases drB_ok (v := v) s1 h2 hm hm2 with e2 | ⟨r, b2, e2, h5, h6, h7⟩
  · obtain ⟨r, c3, e3, h8, h9, h10, h11⟩ := drC_ok (v := v) (many := many) s1 h3 h4 hd hd2 hm
    refine ⟨r, a1, b1, c3, d + 1, ?_, h8, h9, h1, h2, h10, h11, by omega, by omega⟩
    simp [draw, MP.fn, List.replicate, MP.seq, e1, e2, e3, List.set_set]
  · refine ⟨r, a1, b2, c1, d, ?_, h5, h6, h1, h7, h3, h4, by omega, by omega⟩
    simp [draw, MP.fn, List.replicate, MP.seq, e1, e2, List.set_set]
end ML
namespace ML
open MP (D Cn Ob Sto R M En Sl)
/-- the feed at n, k draws at most behind -/
def Feed (n k : Nat) (S : Sto) : Prop := ∃ cells a b c d, S[n]? = some (fd cells a b c d) ∧ 0 ≤ a ∧ 0 ≤ b ∧ 0 ≤ c ∧ c < 2147483647 ∧ 0 ≤ d ∧ d ≤ (k : Int)
/-- new things come behind, all but the thing at n stays -/
def Gr (n : Nat) (S S' : Sto) : Prop := S.length ≤ S'.length ∧ ∀ i, i ≠ n → i < S.length → S'[i]? = S[i]?
theorem Gr.refl (n : Nat) (S : Sto) : Gr n S S := ⟨Nat.le_refl _, fun _ _ _ => rfl⟩
theorem Gr.trans {n : Nat} {S S1 S2 : Sto} (a : Gr n S S1) (b : Gr n S1 S2) : Gr n S S2 := ⟨Nat.le_trans a.1 b.1, fun i h1 h2 => (b.2 i h1 (Nat.lt_of_lt_of_le h2 a.1)).trans (a.2 i h1 h2)⟩
theorem Gr.set {n : Nat} {S : Sto} {o : Ob} : Gr n S (S.set n o) := ⟨by rw [List.length_set]; exact Nat.le_refl _, fun i h _ => List.getElem?_set_ne (Ne.symm h)⟩
theorem Gr.app {n : Nat} {S T : Sto} : Gr n S (S ++ T) := ⟨by rw [List.length_append]; exact Nat.le_add_right _ _, fun i _ h => List.getElem?_append_left h⟩
theorem Feed.lt {n k : Nat} {S : Sto} (h : Feed n k S) : n < S.length := let ⟨_, _, _, _, _, e, _⟩ := h; lt_of_some e
theorem Feed.mono {n k l : Nat} {S : Sto} (h : Feed n k S) (hl : k ≤ l) : Feed n l S := let ⟨cs, a, b, c, d, e, h1, h2, h3, h4, h5, h6⟩ := h; ⟨cs, a, b, c, d, e, h1, h2, h3, h4, h5, by omega⟩
theorem Feed.same {n k : Nat} {S S' : Sto} (h : Feed n k S) (e : S'[n]? = S[n]?) : Feed n k S' := let ⟨cs, a, b, c, d, e1, h⟩ := h; ⟨cs, a, b, c, d, e.trans e1, h⟩
theorem Feed.app {n k : Nat} {S T : Sto} (h : Feed n k S) : Feed n k (S ++ T) := h.same (List.getElem?_append_left h.lt)
/-- draw -/
theorem draw_feed {n k : Nat} {S : Sto} (h : Feed n k S) (hk : k ≤ 1000000 := by omega) {many : Int} (hm : 0 < many := by omega) (hm2 : many < 1000000 := by omega) :
    ∃ r S', draw [.ref n, .int many] S = .ok (.int r) S' ∧ 0 ≤ r ∧ r < many ∧ Feed n (k + 1) S' ∧ Gr n S S' ∧ S'.length = S.length := by
  obtain ⟨cs, a, b, c, d, e, h1, h2, h3, h4, h5, h6⟩ := h
  obtain ⟨r, a', b', c', d', e2, g1, g2, g3, g4, g5, g6, g7, g8⟩ := draw_ok e h1 h2 h3 h4 h5 (by omega) hm (by omega)
  exact ⟨r, _, e2, g1, g2, ⟨cs, a', b', c', d', List.getElem?_set_self (lt_of_some e), g3, g4, g5, g6, by omega, by omega⟩, .set, List.length_set⟩
theorem compL_run {tg : MP.Tg} {elt : MP.E} {ok : Sto → Bool} {e : En} {Pr : Nat → D → Prop} {I : Nat → Sto → Prop} : ∀ {ds : List D} {s : Sto} (j : Nat), I j s →
    (∀ (i : Nat) (d : D) (s : Sto), ds[i]? = some d → I (j + i) s → ok s = true ∧ ∃ e' x s', tg.put d e = some e' ∧ elt e' s = .ok x s' ∧ Pr (j + i) x ∧ I (j + i + 1) s') →
    ∃ xs s', MP.compL tg MP.yes elt ok e ds s = .ok xs s' ∧ xs.length = ds.length ∧ (∀ (i : Nat) (x : D), xs[i]? = some x → Pr (j + i) x) ∧ I (j + ds.length) s'
  | [], s, j, hI, _ => ⟨[], s, rfl, rfl, fun i x h => by simp at h, hI⟩
  | d :: r, s, j, hI, h => by
    obtain ⟨hok, e', x, s1, e1, e2, hp, hI1⟩ := h 0 d s rfl hI
    obtain ⟨xs, s2, e3, hl, hps, hI2⟩ := compL_run (ds := r) (j + 1) hI1 fun i d' s' hd hs => by
      have := h (i + 1) d' s' (by simpa using hd) (by rw [show j + (i + 1) = j + 1 + i by omega]; exact hs)
      rwa [show j + (i + 1) = j + 1 + i by omega] at this
    refine ⟨x :: xs, s2, ?_, by simp [hl], fun i y hy => ?_, by rw [List.length_cons, show j + (r.length + 1) = j + 1 + r.length by omega]; exact hI2⟩
    · unfold MP.compL
      simp [hok, e1, MP.yes, MP.bd, MP.nx, MP.pu, e2, e3]
    · cases i with
      | zero =>
        simp at hy
        subst hy
        exact hp
      | succ i =>
        have := hps i y (by simpa using hy)
        rwa [show j + 1 + i = j + (i + 1) by omega] at this
theorem cmpF_run {src : MP.Src} {tg : MP.Tg} {t : MP.T} {elt : MP.E} {vs : List Nat} {e : En} {S S1 S2 : Sto} {ds xs : List D} {ok : Sto → Bool} (hs : src e S = .ok (ds, ok) S1) (hc : MP.compL tg t elt ok (MP.wipeE e vs) ds S1 = .ok xs S2) (hok : ok S2 = true) (hl : xs.length ≤ MP.LIM) :
    MP.cmpF src tg t elt vs e S = .ok xs S2 := by
  unfold MP.cmpF MP.bd
  rw [hs]
  simp only [hc, hok, Bool.true_and, decide_eq_true hl, if_true]
theorem rng1_run {a : MP.E} {e : En} {S S1 : Sto} {n : Int} (h : a e S = .ok (.int n) S1) (h1 : 0 ≤ n) (h2 : n < 1000000000) : MP.rng1 a e S = .ok (MP.iRow 0 n.toNat, fun _ => true) S1 := by
  have hB : -MP.B62 ≤ (0 : Int) ∧ (0 : Int) < MP.B62 ∧ -MP.B62 ≤ n ∧ n < MP.B62 := by unfold MP.B62; omega
  unfold MP.rng1 MP.bd
  rw [h]
  show MP.rngO 0 n S1 = _
  unfold MP.rngO
  rw [if_pos hB, Int.sub_zero]
  rfl
theorem iRow_len (lo : Int) (n : Nat) : (MP.iRow lo n).length = n := by simp [MP.iRow]
theorem iRow_get {lo : Int} {n i : Nat} {d : D} (h : (MP.iRow lo n)[i]? = some d) : d = .int (lo + (i : Nat)) ∧ i < n := by
  have hi : i < n := by
    rcases Nat.lt_or_ge i n with q | q
    · exact q
    · rw [List.getElem?_eq_none (by rw [iRow_len]; exact q)] at h; cases h
  simp [MP.iRow, hi] at h
  exact ⟨h.symm, hi⟩
/-- items that are all ints -/
theorem ints_all {xs : List D} {Pr : Int → Prop} (h : ∀ (i : Nat) (x : D), xs[i]? = some x → ∃ z, x = .int z ∧ Pr z) : ∃ l : List Int, xs = l.map .int ∧ ∀ z ∈ l, Pr z := by
  induction xs with
  | nil => exact ⟨[], rfl, fun z hz => by simp at hz⟩
  | cons x r ih =>
    obtain ⟨z, e, hz⟩ := h 0 x rfl
    obtain ⟨l, e2, hl⟩ := ih fun i y hy => h (i + 1) y (by simpa using hy)
    exact ⟨z :: l, by rw [e, e2]; rfl, fun y hy => by
      rcases List.mem_cons.mp hy with q | q
      · rw [q]; exact hz
      · exact hl y q⟩
theorem intOf_map : ∀ l : List Int, MP.intOf (l.map .int) = some l
  | [] => rfl
  | z :: r => by simp [MP.intOf, intOf_map r]
def pick : List D → M D := MP.fn 2 2
    (MP.retS (MP.binE MP.idxO (MP.vE 1) (MP.biE draw (MP.consA (MP.vE 0) (MP.consA (MP.biE MP.lenO (MP.consA (MP.vE 1) MP.nilA)) MP.nilA)))))
theorem pick_feed {n k : Nat} {S : Sto} {xs : List D} (h : Feed n k S) (hx : 0 < xs.length) (hx2 : xs.length < 1000000) (hk : k ≤ 1000000 := by omega) :
    ∃ i S', i < xs.length ∧ (∃ x, xs[i]? = some x ∧ pick [.ref n, .lst xs] S = .ok x S') ∧ Feed n (k + 1) S' ∧ Gr n S S' ∧ S'.length = S.length := by
  obtain ⟨r, S', e, h1, h2, h3, h4, h5⟩ := draw_feed h hk (many := xs.length) (by omega) (by omega)
  have hr : r.toNat < xs.length := by omega
  refine ⟨r.toNat, S', hr, ⟨xs[r.toNat], List.getElem?_eq_getElem hr, ?_⟩, h3, h4, h5⟩
  simp [pick, MP.fn, MP.retS, MP.ev, MP.binE, MP.vE, MP.bd, MP.pu, MP.biE, MP.consA, MP.nilA, MP.lenO, MP.len1, MP.itemsO, e, MP.idxO, MP.idxI, MP.idxSeq, MP.ixO, h1, h2, hr]
def hold : List D → M D := MP.fn 3 5
    (MP.seq (MP.setS 3 (MP.newE (MP.cmpF (MP.rng1 (MP.vE 1)) (.nm 4) MP.yes (MP.ifE (MP.tb (MP.binE MP.gtO (MP.biE draw (MP.consA (MP.vE 0) (MP.consA (MP.cE (.int 3)) MP.nilA))) (MP.cE (.int 0)))) (MP.biE draw (MP.consA (MP.vE 0) (MP.consA (MP.binE MP.addO (MP.vE 2) (MP.cE (.int 1))) MP.nilA))) (MP.cE (.int 0))) [4])))
    (MP.seq (MP.ifS (MP.tb (MP.binE MP.eqO (MP.biE MP.sumO (MP.consA (MP.vE 3) MP.nilA)) (MP.cE (.int 0)))) (MP.putS (MP.vE 3) (MP.biE draw (MP.consA (MP.vE 0) (MP.consA (MP.vE 1) MP.nilA))) (MP.binE MP.addO (MP.cE (.int 1)) (MP.biE draw (MP.consA (MP.vE 0) (MP.consA (MP.vE 2) MP.nilA))))) MP.nxS)
    (MP.retS (MP.biE MP.tupleO (MP.consA (MP.vE 3) MP.nilA)))))
theorem eq_int (i j : Int) (S : Sto) : MP.eqO (.int i) (.int j) S = .ok (.bl (i == j)) S := by
  simp [MP.eqO, MP.deepO, MP.noRef, MP.shp, MP.pyEq]
theorem ne_int (i j : Int) (S : Sto) : MP.neO (.int i) (.int j) S = .ok (.bl (!(i == j))) S := by
  simp [MP.neO, MP.deepO, MP.noRef, MP.shp, MP.pyEq]
theorem hold_feed {n k : Nat} {S : Sto} {g m : Int} (h : Feed n k S) (hg : 0 < g) (hg2 : g ≤ 1000) (hm : 0 < m) (hm2 : m < 100000) (hk : k + 2 * g.toNat + 2 ≤ 1000000) :
    ∃ (l : List Int) (S' : Sto), hold [.ref n, .int g, .int m] S = .ok (.tup (l.map .int)) S' ∧ l.length = g.toNat ∧ (∀ z ∈ l, 0 ≤ z ∧ z ≤ m) ∧ l.sum ≠ 0 ∧ Feed n (k + 2 * g.toNat + 2) S' ∧ Gr n S S' := by
  have hB : -MP.B62 ≤ (0 : Int) ∧ (0 : Int) < MP.B62 ∧ -MP.B62 ≤ g ∧ g < MP.B62 := by unfold MP.B62; omega
  obtain ⟨xs, S1, e1, hl, hp, hf, hg1⟩ := compL_run (tg := .nm 4) (elt := MP.ifE (MP.tb (MP.binE MP.gtO (MP.biE draw (MP.consA (MP.vE 0) (MP.consA (MP.cE (.int 3)) MP.nilA))) (MP.cE (.int 0)))) (MP.biE draw (MP.consA (MP.vE 0) (MP.consA (MP.binE MP.addO (MP.vE 2) (MP.cE (.int 1))) MP.nilA))) (MP.cE (.int 0)))
    (ok := fun _ => true) (e := [.va (.ref n), .va (.int g), .va (.int m), .un, .un]) (Pr := fun _ x => ∃ z, x = .int z ∧ 0 ≤ z ∧ z ≤ m) (I := fun i s => Feed n (k + 2 * i) s ∧ Gr n S s) (ds := MP.iRow 0 (g - 0).toNat) 0 ⟨h, .refl n S⟩ (fun i d s hd ⟨hf, hgr⟩ => by
      obtain ⟨rfl, hi⟩ := iRow_get hd
      obtain ⟨r, s1, e, h1, h2, h3, h4, _⟩ := draw_feed hf (by omega) (many := 3)
      refine ⟨rfl, [.va (.ref n), .va (.int g), .va (.int m), .un, .va (.int (0 + (i : Nat)))], ?_⟩
      by_cases q : 0 < r
      · obtain ⟨r2, s2, e2, g1, g2, g3, g4, _⟩ := draw_feed h3 (by omega) (many := m + 1)
        exact ⟨.int r2, s2, rfl, by simp [MP.ifE, MP.tb, MP.binE, MP.biE, MP.consA, MP.nilA, MP.vE, MP.cE, MP.bd, MP.pu, e, MP.gtO, MP.blO, q, MP.addO, e2], ⟨r2, rfl, g1, by omega⟩, g3.mono (by omega), (hgr.trans h4).trans g4⟩
      · exact ⟨.int 0, s1, rfl, by simp [MP.ifE, MP.tb, MP.binE, MP.biE, MP.consA, MP.nilA, MP.vE, MP.cE, MP.bd, MP.pu, e, MP.gtO, MP.blO, q], ⟨0, rfl, by omega, by omega⟩, h3.mono (by omega), hgr.trans h4⟩)
  rw [iRow_len] at hl hf
  obtain ⟨l, rfl, hz⟩ := ints_all hp
  have hll : l.length = g.toNat := by rw [List.length_map] at hl; omega
  have eC : MP.cmpF (MP.rng1 (MP.vE 1)) (.nm 4) MP.yes (MP.ifE (MP.tb (MP.binE MP.gtO (MP.biE draw (MP.consA (MP.vE 0) (MP.consA (MP.cE (.int 3)) MP.nilA))) (MP.cE (.int 0)))) (MP.biE draw (MP.consA (MP.vE 0) (MP.consA (MP.binE MP.addO (MP.vE 2) (MP.cE (.int 1))) MP.nilA))) (MP.cE (.int 0))) [4] [.va (.ref n), .va (.int g), .va (.int m), .un, .un] S = .ok (l.map .int) S1 := by
    unfold MP.cmpF
    have : (l.map D.int).length ≤ MP.LIM := by rw [List.length_map, hll]; unfold MP.LIM; omega
    simp only [MP.rng1, MP.vE, MP.bd, MP.pu, List.getElem?_cons_succ, List.getElem?_cons_zero, MP.rngO, if_pos hB, MP.wipeE, List.set_cons_succ, List.set_cons_zero, e1, Bool.true_and, decide_eq_true this, if_true]
  have hf2 : Feed n (k + 2 * g.toNat) S1 := hf.mono (by omega)
  unfold hold
  generalize MP.cmpF (MP.rng1 (MP.vE 1)) (.nm 4) MP.yes (MP.ifE (MP.tb (MP.binE MP.gtO (MP.biE draw (MP.consA (MP.vE 0) (MP.consA (MP.cE (.int 3)) MP.nilA))) (MP.cE (.int 0)))) (MP.biE draw (MP.consA (MP.vE 0) (MP.consA (MP.binE MP.addO (MP.vE 2) (MP.cE (.int 1))) MP.nilA))) (MP.cE (.int 0))) [4] = C at eC ⊢
  have hpn : n < S1.length := hf2.lt
  generalize hT : S1 ++ [(⟨true, .lst (l.map .int)⟩ : Ob)] = S2
  have hp2 : S2[S1.length]? = some ⟨true, .lst (l.map .int)⟩ := by rw [← hT]; simp
  have hF2 : Feed n (k + 2 * g.toNat) S2 := by rw [← hT]; exact hf2.app
  have hG2 : Gr n S S2 := hg1.trans (by rw [← hT]; exact .app)
  have hsl : S.length ≤ S1.length := hg1.1
  have eN : MP.newO (.lst (l.map .int)) S1 = .ok (.ref S1.length) S2 := by rw [← hT]; rfl
  generalize S1.length = p at hp2 hpn hsl eN
  have eS : MP.sumO [.ref p] S2 = .ok (.int l.sum) S2 := by simp [MP.sumO, MP.itemsO, MP.bd, hp2, intOf_map, MP.pu]
  have eT : ∀ (T : Sto) (r : List D), T[p]? = some ⟨true, .lst r⟩ → MP.tupleO [.ref p] T = .ok (.tup r) T := fun T r h => by simp [MP.tupleO, MP.tup1, MP.litO, MP.itemsO, MP.bd, h, MP.pu]
  by_cases q : l.sum = 0
  · obtain ⟨r1, S3, e3, a1, a2, a3, a4, a5⟩ := draw_feed hF2 (by omega) (many := m)
    obtain ⟨r2, S4, e4, b1, b2, b3, b4, b5⟩ := draw_feed a3 (by omega) (many := g)
    have hp4 : S4[p]? = some ⟨true, .lst (l.map .int)⟩ := by
      rw [(a4.trans b4).2 p (by omega) (lt_of_some hp2)]; exact hp2
    have hr : r2 < (l.length : Int) := by omega
    have eP : MP.putO (.ref p) (.int r2) (.int (1 + r1)) S4 = .ok .non (S4.set p ⟨true, .lst ((l.set r2.toNat (1 + r1)).map .int)⟩) := by
      have hl3 : l.length ≤ MP.LIM := by unfold MP.LIM; omega
      simp [MP.putO, MP.mutL, hp4, MP.ixO, b1, hr, hl3, List.map_set]
    refine ⟨l.set r2.toNat (1 + r1), S4.set p ⟨true, .lst ((l.set r2.toNat (1 + r1)).map .int)⟩, ?_, by rw [List.length_set]; exact hll, fun z hz' => ?_, ?_, ?_, ?_⟩
    · simp [MP.fn, List.replicate, MP.seq, MP.setS, MP.ev, MP.newE, MP.bd, eC, eN, MP.ifS, MP.tb, MP.binE, MP.biE, MP.consA, MP.nilA, MP.vE, MP.cE, MP.pu, eS, eq_int, MP.blO, q, MP.putS, e3, MP.addO, e4, eP, MP.nxS, MP.retS, eT _ _ (List.getElem?_set_self (lt_of_some hp4))]
    · rcases List.mem_or_eq_of_mem_set hz' with w | w
      · exact hz z w
      · omega
    · have hpos : ∀ (t : List Int), (∀ z ∈ t, 0 ≤ z) → ∀ x ∈ t, x ≤ t.sum := fun t => by
        induction t with
        | nil => intro _ x hx; simp at hx
        | cons y r ih =>
          intro h x hx
          have h0 := h y List.mem_cons_self
          have hr0 : ∀ z ∈ r, 0 ≤ z := fun z hz => h z (List.mem_cons_of_mem _ hz)
          have rs : 0 ≤ r.sum := by
            clear ih hx h
            induction r with
            | nil => simp
            | cons u v ih2 =>
              have := ih2 fun z hz => hr0 z (List.mem_cons_of_mem _ hz)
              have := hr0 u List.mem_cons_self
              rw [List.sum_cons]
              omega
          rw [List.sum_cons]
          rcases List.mem_cons.mp hx with w | w
          · omega
          · have := ih hr0 x w
            omega
      have hm1 : (1 + r1) ∈ l.set r2.toNat (1 + r1) := List.mem_iff_getElem?.mpr ⟨r2.toNat, List.getElem?_set_self (by omega)⟩
      have := hpos _ (fun z hz' => by
        rcases List.mem_or_eq_of_mem_set hz' with w | w
        · exact (hz z w).1
        · omega) _ hm1
      omega
    · refine (b3.mono (by omega)).same ?_
      rw [List.getElem?_set_ne (by omega)]
    · refine ⟨by rw [List.length_set]; exact (hG2.trans (a4.trans b4)).1, fun i h1 h2 => ?_⟩
      rw [List.getElem?_set_ne (by omega)]
      exact (hG2.trans (a4.trans b4)).2 i h1 h2
  · refine ⟨l, S2, ?_, hll, hz, q, hF2.mono (by omega), hG2⟩
    simp [MP.fn, List.replicate, MP.seq, MP.setS, MP.ev, MP.newE, MP.bd, eC, eN, MP.ifS, MP.tb, MP.binE, MP.biE, MP.consA, MP.nilA, MP.vE, MP.cE, MP.pu, eS, eq_int, MP.blO, q, MP.nxS, MP.retS, eT _ _ hp2]
end ML
namespace ML
open MP (D Cn Ob Sto R M En Sl)
def row (r : List Int) : D := .tup (r.map .int)
def rows (l : List (List Int)) : D := .tup (l.map row)
def lot : List D → M D := MP.fn 4 5
    (MP.retS (MP.biE MP.tupleO (MP.consA (MP.frzE (MP.cmpF (MP.rng1 (MP.binE MP.addO (MP.cE (.int 1)) (MP.biE draw (MP.consA (MP.vE 0) (MP.consA (MP.vE 2) MP.nilA))))) (.nm 4) MP.yes (MP.biE hold (MP.consA (MP.vE 0) (MP.consA (MP.vE 1) (MP.consA (MP.vE 3) MP.nilA)))) [4])) MP.nilA)))
theorem rows_all {xs : List D} {Pr : List Int → Prop} (h : ∀ (i : Nat) (x : D), xs[i]? = some x → ∃ z, x = row z ∧ Pr z) : ∃ l : List (List Int), xs = l.map row ∧ ∀ z ∈ l, Pr z := by
  induction xs with
  | nil => exact ⟨[], rfl, fun z hz => by simp at hz⟩
  | cons x r ih =>
    obtain ⟨z, e, hz⟩ := h 0 x rfl
    obtain ⟨l, e2, hl⟩ := ih fun i y hy => h (i + 1) y (by simpa using hy)
    exact ⟨z :: l, by rw [e, e2]; rfl, fun y hy => by
      rcases List.mem_cons.mp hy with q | q
      · rw [q]; exact hz
      · exact hl y q⟩
/-- a lot's hold: g goods, each at most m, not all noughts -/
def HoldOk (g m : Int) (l : List Int) : Prop := l.length = g.toNat ∧ (∀ z ∈ l, 0 ≤ z ∧ z ≤ m) ∧ l.sum ≠ 0
theorem lot_feed {n k : Nat} {S : Sto} {g q m : Int} (h : Feed n k S) (hg : 0 < g := by omega) (hg2 : g ≤ 1000 := by omega) (hq : 0 < q := by omega) (hq2 : q ≤ 1000 := by omega) (hm : 0 < m := by omega) (hm2 : m < 100000 := by omega) (hk : k + 1 + (2 * g.toNat + 2) * q.toNat ≤ 1000000 := by omega) :
    ∃ (l : List (List Int)) (S' : Sto), lot [.ref n, .int g, .int q, .int m] S = .ok (rows l) S' ∧ 0 < l.length ∧ l.length ≤ q.toNat ∧ (∀ r ∈ l, HoldOk g m r) ∧ Feed n (k + 1 + (2 * g.toNat + 2) * q.toNat) S' ∧ Gr n S S' := by
  obtain ⟨r, S1, e, h1, h2, h3, h4, _⟩ := draw_feed h (by omega) (many := q)
  have hB : -MP.B62 ≤ (0 : Int) ∧ (0 : Int) < MP.B62 ∧ -MP.B62 ≤ 1 + r ∧ 1 + r < MP.B62 := by unfold MP.B62; omega
  have step : ∀ i : Nat, (i : Int) < q → (2 * g.toNat + 2) * i + (2 * g.toNat + 2) ≤ (2 * g.toNat + 2) * q.toNat := fun i hi => by
    have : (2 * g.toNat + 2) * (i + 1) ≤ (2 * g.toNat + 2) * q.toNat := Nat.mul_le_mul_left _ (by omega)
    rwa [Nat.mul_add, Nat.mul_one] at this
  obtain ⟨xs, S2, e1, hl, hp, hf, hg1⟩ := compL_run (tg := .nm 4) (elt := MP.biE hold (MP.consA (MP.vE 0) (MP.consA (MP.vE 1) (MP.consA (MP.vE 3) MP.nilA))))
    (ok := fun _ => true) (e := [.va (.ref n), .va (.int g), .va (.int q), .va (.int m), .un]) (Pr := fun _ x => ∃ z, x = row z ∧ HoldOk g m z) (I := fun i s => Feed n (k + 1 + (2 * g.toNat + 2) * i) s ∧ Gr n S1 s) (ds := MP.iRow 0 (1 + r - 0).toNat) 0 ⟨h3, .refl n S1⟩ (fun i d s hd ⟨hf, hgr⟩ => by
      obtain ⟨rfl, hi⟩ := iRow_get hd
      have hs := step i (by omega)
      obtain ⟨l, s1, e, g1, g2, g3, g4, g5⟩ := hold_feed hf hg hg2 hm hm2 (by rw [Nat.zero_add]; omega)
      refine ⟨rfl, [.va (.ref n), .va (.int g), .va (.int q), .va (.int m), .va (.int (0 + (i : Nat)))], row l, s1, rfl, by simp [MP.biE, MP.consA, MP.nilA, MP.vE, MP.bd, MP.pu, e, row], ⟨l, rfl, g1, g2, g3⟩, g4.mono ?_, hgr.trans g5⟩
      simp only [Nat.zero_add]
      rw [Nat.mul_add, Nat.mul_one]
      omega)
  rw [iRow_len] at hl hf
  obtain ⟨l, rfl, hz⟩ := rows_all hp
  rw [List.length_map] at hl
  have hn : (1 + r - 0).toNat ≤ q.toNat := by omega
  have hm3 : (2 * g.toNat + 2) * (1 + r - 0).toNat ≤ (2 * g.toNat + 2) * q.toNat := Nat.mul_le_mul_left _ hn
  refine ⟨l, S2, ?_, by omega, by omega, hz, hf.mono (by rw [Nat.zero_add]; omega), h4.trans hg1⟩
  have hL : (l.map row).length ≤ MP.LIM := by rw [List.length_map]; unfold MP.LIM; omega
  have eC : MP.cmpF (MP.rng1 (MP.binE MP.addO (MP.cE (.int 1)) (MP.biE draw (MP.consA (MP.vE 0) (MP.consA (MP.vE 2) MP.nilA))))) (.nm 4) MP.yes (MP.biE hold (MP.consA (MP.vE 0) (MP.consA (MP.vE 1) (MP.consA (MP.vE 3) MP.nilA)))) [4] [.va (.ref n), .va (.int g), .va (.int q), .va (.int m), .un] S = .ok (l.map row) S2 := by
    unfold MP.cmpF
    simp only [MP.rng1, MP.binE, MP.cE, MP.biE, MP.consA, MP.nilA, MP.vE, MP.bd, MP.pu, List.getElem?_cons_succ, List.getElem?_cons_zero, e, MP.addO, MP.rngO, if_pos hB, MP.wipeE, List.set_cons_succ, List.set_cons_zero, e1, Bool.true_and, decide_eq_true hL, if_true]
  unfold lot
  generalize MP.cmpF (MP.rng1 (MP.binE MP.addO (MP.cE (.int 1)) (MP.biE draw (MP.consA (MP.vE 0) (MP.consA (MP.vE 2) MP.nilA))))) (.nm 4) MP.yes (MP.biE hold (MP.consA (MP.vE 0) (MP.consA (MP.vE 1) (MP.consA (MP.vE 3) MP.nilA)))) [4] = C at eC ⊢
  simp [MP.fn, List.replicate, MP.retS, MP.ev, MP.biE, MP.consA, MP.nilA, MP.bd, MP.frzE, eC, MP.pu, MP.tupleO, MP.tup1, MP.litO, rows]
def anyLot : List D → M D := MP.fn 1 1
    (MP.retS (MP.biE lot (MP.consA (MP.vE 0) (MP.consA (MP.binE MP.addO (MP.cE (.int 1)) (MP.biE draw (MP.consA (MP.vE 0) (MP.consA (MP.cE (.int 3)) MP.nilA)))) (MP.consA (MP.cE (.int 5)) (MP.consA (MP.biE pick (MP.consA (MP.vE 0) (MP.consA (MP.frzE (MP.lstF (MP.consA (MP.cE (.int 6)) (MP.consA (MP.cE (.int 3)) (MP.consA (MP.cE (.int 2)) (MP.consA (MP.cE (.int 1)) MP.nilA)))))) MP.nilA))) MP.nilA))))))
theorem anyLot_feed {n k : Nat} {S : Sto} (h : Feed n k S) (hk : k + 43 ≤ 1000000 := by omega) :
    ∃ (g m : Int) (l : List (List Int)) (S' : Sto), anyLot [.ref n] S = .ok (rows l) S' ∧ 0 < g ∧ g ≤ 3 ∧ 0 < m ∧ m ≤ 6 ∧ 0 < l.length ∧ l.length ≤ 5 ∧ (∀ r ∈ l, HoldOk g m r) ∧ Feed n (k + 43) S' ∧ Gr n S S' := by
  obtain ⟨r, S1, e1, a1, a2, a3, a4, _⟩ := draw_feed h (by omega) (many := 3)
  obtain ⟨i, S2, hi, ⟨x, hx, e2⟩, b3, b4, _⟩ := pick_feed (xs := [.int 6, .int 3, .int 2, .int 1]) a3 (by decide) (by decide) (by omega)
  obtain ⟨m, rfl, hm1, hm2⟩ : ∃ m, x = .int m ∧ 0 < m ∧ m ≤ 6 := by
    match i, hx with
    | 0, hx => cases hx; exact ⟨6, rfl, by omega, by omega⟩
    | 1, hx => cases hx; exact ⟨3, rfl, by omega, by omega⟩
    | 2, hx => cases hx; exact ⟨2, rfl, by omega, by omega⟩
    | 3, hx => cases hx; exact ⟨1, rfl, by omega, by omega⟩
  have h5 : Int.toNat 5 = 5 := rfl
  obtain ⟨l, S3, e3, c1, c2, c3, c4, c5⟩ := lot_feed (g := 1 + r) (q := 5) (m := m) b3 (hk := by rw [h5]; omega)
  refine ⟨1 + r, m, l, S3, ?_, by omega, by omega, hm1, hm2, c1, c2, c3, c4.mono (by rw [h5]; omega), (a4.trans b4).trans c5⟩
  simp [anyLot, MP.fn, List.replicate, MP.retS, MP.ev, MP.biE, MP.consA, MP.nilA, MP.bd, MP.pu, MP.vE, MP.binE, MP.cE, e1, MP.addO, MP.frzE, MP.lstF, MP.LIM, e2, e3]
end ML
namespace ML
open MP (D Cn Ob Sto R M En Sl)
def sameC (F : List D → M D) : MP.Es := MP.cmpF (MP.rng1 (MP.biE MP.lenO (MP.consA (MP.vE 1) MP.nilA))) (.nm 3) MP.yes (MP.biE F (MP.consA (MP.binE MP.idxO (MP.vE 0) (MP.vE 3)) (MP.consA (MP.binE MP.idxO (MP.vE 1) (MP.vE 3)) MP.nilA))) [3]
def sameW (C : MP.Es) : MP.St :=
    (MP.seq (MP.ifS (MP.tb (MP.unE MP.isnO (MP.vE 1))) (MP.retS (MP.unE MP.isnO (MP.vE 0))) MP.nxS)
    (MP.seq (MP.ifS (MP.tst (MP.biE (MP.isiO .bool) (MP.consA (MP.vE 1) MP.nilA))) (MP.retS (MP.andE (MP.biE (MP.isiO .bool) (MP.consA (MP.vE 0) MP.nilA)) (MP.binE MP.eqO (MP.vE 0) (MP.vE 1)))) MP.nxS)
    (MP.seq (MP.ifS (MP.tst (MP.biE (MP.isiO .int) (MP.consA (MP.vE 1) MP.nilA))) (MP.retS (MP.andE (MP.biE (MP.isiO .int) (MP.consA (MP.vE 0) MP.nilA)) (MP.andE (MP.notE (MP.biE (MP.isiO .bool) (MP.consA (MP.vE 0) MP.nilA))) (MP.binE MP.eqO (MP.vE 0) (MP.vE 1))))) MP.nxS)
    (MP.seq (MP.ifS (MP.tst (MP.biE (MP.isiO .str) (MP.consA (MP.vE 1) MP.nilA))) (MP.retS (MP.andE (MP.biE (MP.isiO .str) (MP.consA (MP.vE 0) MP.nilA)) (MP.binE MP.eqO (MP.vE 0) (MP.vE 1)))) MP.nxS)
    (MP.seq (MP.ifS (MP.tst (MP.biE (MP.isiO .dict) (MP.consA (MP.vE 1) MP.nilA))) MP.noS MP.nxS)
    (MP.seq (MP.ifS (MP.orT (MP.tb (MP.binE MP.neO (MP.biE (MP.isiO .tuple) (MP.consA (MP.vE 1) MP.nilA)) (MP.biE (MP.isiO .tuple) (MP.consA (MP.vE 0) MP.nilA)))) (MP.tb (MP.binE MP.neO (MP.biE (MP.isiO .list) (MP.consA (MP.vE 1) MP.nilA)) (MP.biE (MP.isiO .list) (MP.consA (MP.vE 0) MP.nilA))))) (MP.retS (MP.cE (.bl false))) MP.nxS)
    (MP.seq (MP.ifS (MP.tb (MP.binE MP.neO (MP.biE MP.lenO (MP.consA (MP.vE 0) MP.nilA)) (MP.biE MP.lenO (MP.consA (MP.vE 1) MP.nilA)))) (MP.retS (MP.cE (.bl false))) MP.nxS)
    (MP.retS (MP.biE MP.allO (MP.consA (MP.frzE C) MP.nilA))))))))))
def sameB (F : List D → M D) : MP.St := sameW (sameC F)
def same : Nat → List D → M D
  | 0 => MP.fn 2 4 MP.noS
  | n + 1 => MP.fn 2 4 (sameB (same n))
theorem eq_bl (i j : Bool) (S : Sto) : MP.eqO (.bl i) (.bl j) S = .ok (.bl (i == j)) S := by
  simp [MP.eqO, MP.deepO, MP.noRef, MP.shp, MP.pyEq]
theorem ne_bl (i j : Bool) (S : Sto) : MP.neO (.bl i) (.bl j) S = .ok (.bl (!(i == j))) S := by
  simp [MP.neO, MP.deepO, MP.noRef, MP.shp, MP.pyEq]
theorem same_int (n : Nat) (z : Int) (S : Sto) : same (n + 1) [.int z, .int z] S = .ok (.bl true) S := by
  simp [same, sameB, sameW, MP.fn, List.replicate, MP.seq, MP.ifS, MP.ev, MP.tb, MP.tst, MP.truO, MP.unE, MP.isnO, MP.vE, MP.bd, MP.pu, MP.blO, MP.nxS, MP.biE, MP.consA, MP.nilA, MP.isiO, MP.retS, MP.andE, MP.notE, MP.binE, eq_int]
theorem same_str (n : Nat) (z : MP.Sy) (S : Sto) (h : z.all (· < 0x110000) = true) : same (n + 1) [.str z, .str z] S = .ok (.bl true) S := by
  have e : MP.eqO (.str z) (.str z) S = .ok (.bl true) S := by
    simp only [List.all_eq_true, decide_eq_true_eq] at h
    simp [MP.eqO, MP.deepO, MP.noRef, MP.shp, MP.pyEq]
    exact h
  simp [same, sameB, sameW, MP.fn, List.replicate, MP.seq, MP.ifS, MP.ev, MP.tb, MP.tst, MP.truO, MP.unE, MP.isnO, MP.vE, MP.bd, MP.pu, MP.blO, MP.nxS, MP.biE, MP.consA, MP.nilA, MP.isiO, MP.retS, MP.andE, MP.notE, MP.binE, e]
theorem same_non (n : Nat) (S : Sto) : same (n + 1) [.non, .non] S = .ok (.bl true) S := by
  simp [same, sameB, sameW, MP.fn, List.replicate, MP.seq, MP.ifS, MP.ev, MP.tb, MP.tst, MP.truO, MP.unE, MP.isnO, MP.vE, MP.bd, MP.pu, MP.blO, MP.nxS, MP.biE, MP.consA, MP.nilA, MP.isiO, MP.retS]
theorem sameW_lst (C : MP.Es) {x : D} {xs ds ys : List D} {S2 : Sto} (hl : xs.length = ds.length) (hlen : MP.lenO [x] S2 = .ok (.int xs.length) S2) (hty : ∀ t, MP.isiO t [x] S2 = .ok (.bl (t == .list)) S2) (eC : C [.va x, .va (.lst ds), .un, .un] S2 = .ok ys S2) (al : MP.allO [.lst ys] S2 = .ok (.bl true) S2) :
    MP.fn 2 4 (sameW C) [x, .lst ds] S2 = .ok (.bl true) S2 := by
  have hd3 : MP.lenO [.lst ds] S2 = .ok (.int ds.length) S2 := rfl
  have a1 : MP.isiO .bool [.lst ds] S2 = .ok (.bl false) S2 := rfl
  have a2 : MP.isiO .int [.lst ds] S2 = .ok (.bl false) S2 := rfl
  have a3 : MP.isiO .str [.lst ds] S2 = .ok (.bl false) S2 := rfl
  have a4 : MP.isiO .dict [.lst ds] S2 = .ok (.bl false) S2 := rfl
  have a5 : MP.isiO .tuple [.lst ds] S2 = .ok (.bl false) S2 := rfl
  have a6 : MP.isiO .list [.lst ds] S2 = .ok (.bl true) S2 := rfl
  have b5 : MP.isiO .tuple [x] S2 = .ok (.bl false) S2 := hty .tuple
  have b6 : MP.isiO .list [x] S2 = .ok (.bl true) S2 := hty .list
  have c1 : MP.isnO (.lst ds) = MP.pu (.bl false) := rfl
  have n1 := ne_bl false false S2
  have n2 := ne_bl true true S2
  have n3 : MP.neO (.int xs.length) (.int ds.length) S2 = .ok (.bl false) S2 := by rw [ne_int, hl]; simp
  simp only [sameW, MP.fn, List.length_cons, List.length_nil, Nat.zero_add, Nat.reduceAdd, if_true, List.map_cons, List.map_nil, Nat.reduceSub, List.replicate, List.cons_append, List.nil_append, MP.seq, MP.ifS, MP.ev, MP.tb, MP.tst, MP.truO, MP.unE, MP.vE, MP.bd, MP.pu, MP.blO, MP.nxS, MP.biE, MP.consA, MP.nilA, List.getElem?_cons_zero, List.getElem?_cons_succ, a1, a2, a3, a4, a5, a6, b5, b6, c1, n1, n2, BEq.rfl, beq_self_eq_true, Bool.not_true, Bool.false_eq_true, if_false, MP.orT, MP.binE, hlen, hd3, n3, MP.retS, MP.frzE, eC, al]
end ML
namespace MP
/-- types that name the way on: so simp looks at the first thing alone -/
abbrev Wr {α β : Type} (k : α → Sto → R β) : Type := R β
abbrev WrS (k : En → Sto → RS) : Type := RS
abbrev WrG {α : Type} (k : α → Sto → RS) : Type := RS
def R.then {α β} (x : R α) (k : α → Sto → R β) : Wr k := match x with
  | .ok a s => k a s
  | .exc c ns vs s => .exc c ns vs s
  | .bad => .bad
@[simp] theorem R.then_ok {α β} (a : α) (s : Sto) (k : α → Sto → R β) : R.then (.ok a s) k = k a s := (rfl)
@[simp] theorem R.then_exc {α β} (c ns vs) (s : Sto) (k : α → Sto → R β) : R.then (.exc c ns vs s) k = .exc c ns vs s := (rfl)
@[simp] theorem R.then_bad {α β} (k : α → Sto → R β) : R.then .bad k = .bad := (rfl)
@[simp] theorem R.then_ite {α β} (p : Prop) [Decidable p] (x y : R α) (k : α → Sto → R β) : R.then (if p then x else y) k = if p then R.then x k else R.then y k := by split <;> rfl
def RS.then (x : RS) (k : En → Sto → RS) : WrS k := match x with
  | .nx e s => k e s
  | r => r
@[simp] theorem RS.then_nx (e s k) : RS.then (.nx e s) k = k e s := (rfl)
@[simp] theorem RS.then_rt (d s k) : RS.then (.rt d s) k = .rt d s := (rfl)
@[simp] theorem RS.then_bk (e s k) : RS.then (.bk e s) k = .bk e s := (rfl)
@[simp] theorem RS.then_ct (e s k) : RS.then (.ct e s) k = .ct e s := (rfl)
@[simp] theorem RS.then_ex (e c ns vs s k) : RS.then (.ex e c ns vs s) k = .ex e c ns vs s := (rfl)
@[simp] theorem RS.then_bad (k) : RS.then .bad k = .bad := (rfl)
@[simp] theorem RS.then_ite (p : Prop) [Decidable p] (x y : RS) (k : En → Sto → RS) : RS.then (if p then x else y) k = if p then RS.then x k else RS.then y k := by split <;> rfl
/-- a value's run inside a statement -/
def R.go {α} (x : R α) (e : En) (k : α → Sto → RS) : WrG k := match x with
  | .ok a s => k a s
  | .exc c ns vs s => .ex e c ns vs s
  | .bad => .bad
@[simp] theorem R.go_ok {α} (a : α) (s e) (k : α → Sto → RS) : R.go (.ok a s) e k = k a s := (rfl)
@[simp] theorem R.go_exc {α} (c ns vs s e) (k : α → Sto → RS) : R.go (.exc c ns vs s) e k = .ex e c ns vs s := (rfl)
@[simp] theorem R.go_bad {α} (e) (k : α → Sto → RS) : R.go .bad e k = .bad := (rfl)
@[simp] theorem R.go_ite {α} (p : Prop) [Decidable p] (x y : R α) (e) (k : α → Sto → RS) : R.go (if p then x else y) e k = if p then R.go x e k else R.go y e k := by split <;> rfl
/-- a def's end -/
def RS.fin : RS → R D
  | .nx _ s => .ok .non s
  | .rt d s => .ok d s
  | .ex _ c ns vs s => .exc c ns vs s
  | _ => .bad
@[simp] theorem RS.fin_nx (e s) : RS.fin (.nx e s) = .ok .non s := (rfl)
@[simp] theorem RS.fin_rt (d s) : RS.fin (.rt d s) = .ok d s := (rfl)
@[simp] theorem RS.fin_ex (e c ns vs s) : RS.fin (.ex e c ns vs s) = .exc c ns vs s := (rfl)
@[simp] theorem RS.fin_bad : RS.fin .bad = .bad := (rfl)
@[simp] theorem RS.fin_ite (p : Prop) [Decidable p] (x y : RS) : RS.fin (if p then x else y) = if p then RS.fin x else RS.fin y := by split <;> rfl
theorem bdT {α β} (m : M α) (k : α → M β) : bd m k = fun s => R.then (m s) fun a s => k a s := by funext s; simp only [bd, R.then] <;> cases m s <;> rfl
/-- a thing that is asked -/
noncomputable def grd {α} (p : Prop) (x : R α) : R α := @ite _ p (Classical.propDecidable p) x .bad
theorem grd_ok {α} {p : Prop} (x : R α) (h : p) : grd p x = x := if_pos h
theorem grd_no {α} {p : Prop} (x : R α) (h : ¬ p) : grd p x = .bad := if_neg h
theorem grd_dec {α} (p : Prop) [d : Decidable p] (x : R α) : (if p then x else .bad) = grd p x := by
  by_cases h : p
  · rw [grd_ok x h, if_pos h]
  · rw [grd_no x h, if_neg h]
theorem grd_eq {α} {p : Prop} {x y : R α} (h : p) (e : x = y) : grd p x = y := (grd_ok x h).trans e
@[simp] theorem grd_true {α} (x : R α) : grd True x = x := grd_ok x trivial
@[simp] theorem grd_then {α β} (p : Prop) (x : R α) (k : α → Sto → R β) : R.then (grd p x) k = grd p (R.then x k) := by
  by_cases h : p
  · rw [grd_ok _ h, grd_ok _ h]
  · rw [grd_no _ h, grd_no _ h]; rfl
/-- the same of a statement's run -/
noncomputable def grS (p : Prop) (x : RS) : RS := @ite _ p (Classical.propDecidable p) x .bad
theorem grS_ok {p : Prop} (x : RS) (h : p) : grS p x = x := if_pos h
theorem grS_no {p : Prop} (x : RS) (h : ¬ p) : grS p x = .bad := if_neg h
theorem grS_eq {p : Prop} {x y : RS} (h : p) (e : x = y) : grS p x = y := (grS_ok x h).trans e
@[simp] theorem grS_true (x : RS) : grS True x = x := grS_ok x trivial
@[simp] theorem grd_go {α} (p : Prop) (x : R α) (e) (k : α → Sto → RS) : R.go (grd p x) e k = grS p (R.go x e k) := by
  by_cases h : p
  · rw [grd_ok _ h, grS_ok _ h]
  · rw [grd_no _ h, grS_no _ h]; rfl
@[simp] theorem grS_then (p : Prop) (x : RS) (k : En → Sto → RS) : RS.then (grS p x) k = grS p (RS.then x k) := by
  by_cases h : p
  · rw [grS_ok _ h, grS_ok _ h]
  · rw [grS_no _ h, grS_no _ h]; rfl
@[simp] theorem grS_fin (p : Prop) (x : RS) : RS.fin (grS p x) = grd p (RS.fin x) := by
  by_cases h : p
  · rw [grd_ok _ h, grS_ok _ h]
  · rw [grd_no _ h, grS_no _ h]; rfl
section
variable {α β : Type} {e : En} {s : Sto}
@[simp] theorem x_pu (a : α) : pu a s = .ok a s := (rfl)
@[simp] theorem x_no : (no : M α) s = .bad := (rfl)
@[simp] theorem x_rz (c ns vs) : (rz c ns vs : M α) s = .exc c ns vs s := (rfl)
@[simp] theorem x_bd (m : M α) (k : α → M β) : bd m k s = R.then (m s) k := by simp only [bd, R.then] <;> cases m s <;> rfl
def Sl.get : Option Sl → Sto → R D
  | some (.va d), s => .ok d s
  | _, _ => .bad
@[simp] theorem Sl.get_va (d : D) : Sl.get (some (.va d)) s = .ok d s := (rfl)
@[simp] theorem x_vE (i : Nat) : vE i e s = Sl.get e[i]? s := by
  unfold vE
  rcases h : e[i]? with _ | (_ | d | _ | _) <;> simp only [Sl.get] <;> rfl
@[simp] theorem x_cE (d : D) : cE d e s = .ok d s := (rfl)
@[simp] theorem x_nilA : nilA e s = .ok [] s := (rfl)
@[simp] theorem x_consA (a : E) (r : Es) : consA a r e s = R.then (a e s) fun x s => R.then (r e s) fun xs s => .ok (x :: xs) s := by simp only [consA, x_bd]; rfl
@[simp] theorem x_tupE (a : Es) : tupE a e s = R.then (a e s) tupO := by simp only [tupE, bdT]
@[simp] theorem x_lstF (a : Es) : lstF a e s = R.then (a e s) fun xs s => grd (xs.length ≤ 16777216) (.ok xs s) := by
  simp only [lstF, x_bd]
  congr; funext xs s; show (if xs.length ≤ LIM then pu xs else no) s = _; unfold LIM; rw [← grd_dec]; split <;> rfl
@[simp] theorem x_frzE (a : Es) : frzE a e s = R.then (a e s) fun xs s => .ok (.lst xs) s := by simp only [frzE, x_bd]; rfl
@[simp] theorem x_newE (a : Es) : newE a e s = R.then (a e s) fun xs s => .ok (.ref s.length) (s ++ [⟨true, .lst xs⟩]) := by simp only [newE, x_bd]; rfl
@[simp] theorem x_binE (o : D → D → M D) (a b : E) : binE o a b e s = R.then (a e s) fun x s => R.then (b e s) (o x) := by simp only [binE, bdT]
@[simp] theorem x_unE (o : D → M D) (a : E) : unE o a e s = R.then (a e s) o := by simp only [unE, bdT]
@[simp] theorem x_biE (g : List D → M D) (a : Es) : biE g a e s = R.then (a e s) g := by simp only [biE, bdT]
@[simp] theorem x_cakE (F : Nat → List D → M D) (f : Nat) (g : List D → List D → List D) (a k : Es) : cakE F f g a k e s = R.then (a e s) fun xs s => R.then (k e s) fun ys s => F f (g xs ys) s := by simp only [cakE, bdT]
@[simp] theorem x_lamE (G : M D → M D) (a : E) : lamE G a e s = nx (G (a e)) s := (rfl)
def R.nx {α} (x : R α) : R α := match x with
  | .exc _ _ _ _ => .bad
  | r => r
@[simp] theorem R.nx_ok {α} (a : α) (s) : R.nx (.ok a s) = .ok a s := (rfl)
@[simp] theorem R.nx_ite {α} (p : Prop) [Decidable p] (x y : R α) : R.nx (if p then x else y) = if p then R.nx x else R.nx y := by split <;> rfl
@[simp] theorem R.nx_grd {α} (p : Prop) (x : R α) : R.nx (grd p x) = grd p (R.nx x) := by
  by_cases h : p
  · rw [grd_ok _ h, grd_ok _ h]
  · rw [grd_no _ h, grd_no _ h]; rfl
@[simp] theorem x_nx (m : M α) : nx m s = R.nx (m s) := by simp only [nx, R.nx] <;> cases m s <;> rfl
@[simp] theorem x_tst (a : E) : tst a e s = R.then (a e s) truO := by simp only [tst, bdT]
@[simp] theorem x_tb (a : E) : tb a e s = R.then (a e s) blO := by simp only [tb, bdT]
@[simp] theorem x_andT (a b : T) : andT a b e s = R.then (a e s) fun c s => if c = true then b e s else .ok false s := by
  simp only [andT, x_bd]; congr; funext c s; cases c <;> rfl
@[simp] theorem x_orT (a b : T) : orT a b e s = R.then (a e s) fun c s => if c = true then .ok true s else b e s := by
  simp only [orT, x_bd]; congr; funext c s; cases c <;> rfl
@[simp] theorem x_notT (a : T) : notT a e s = R.then (a e s) fun c s => .ok (!c) s := by simp only [notT, x_bd]; rfl
@[simp] theorem x_andE (a b : E) : andE a b e s = R.then (a e s) fun d s => R.then (blO d s) fun c s => if c = true then b e s else .ok (.bl false) s := by
  simp only [andE, x_bd]; congr; funext d s; congr; funext c s; cases c <;> rfl
@[simp] theorem x_orE (a b : E) : orE a b e s = R.then (a e s) fun d s => R.then (blO d s) fun c s => if c = true then .ok (.bl true) s else b e s := by
  simp only [orE, x_bd]; congr; funext d s; congr; funext c s; cases c <;> rfl
@[simp] theorem x_notE (a : E) : notE a e s = R.then (a e s) fun d s => R.then (blO d s) fun c s => .ok (.bl (!c)) s := by simp only [notE, x_bd]; rfl
@[simp] theorem x_ifE (t : T) (a b : E) : ifE t a b e s = R.then (t e s) fun c s => if c = true then a e s else b e s := by
  simp only [ifE, x_bd]; congr; funext c s; cases c <;> rfl
def chK (o : D → D → M D) (y : D) (c : E) (e : En) : D → Sto → R D
  | .bl true, s => R.then (c e s) (o y)
  | .bl false, s => .ok (.bl false) s
  | _, _ => .bad
@[simp] theorem chK_bl (o : D → D → M D) (y : D) (c : E) (e : En) (b : Bool) : chK o y c e (.bl b) s = if b = true then R.then (c e s) (o y) else .ok (.bl false) s := by cases b <;> rfl
@[simp] theorem x_chE (o o' : D → D → M D) (a b c : E) : chE o o' a b c e s = R.then (a e s) fun x s => R.then (b e s) fun y s => R.then (o x y s) fun z s => chK o' y c e z s := by
  simp only [chE, x_bd]; congr; funext x s; congr; funext y s; congr; funext z s
  cases z with
  | bl b => cases b <;> simp only [chK, x_bd] <;> rfl
  | _ => rfl
@[simp] theorem x_seqS (a : E) : seqS a e s = R.then (a e s) fun d s => R.then (itemsO d s) fun xs s => .ok (xs, watch d s) s := by simp only [seqS, bdT]
def rK : D → Sto → R (List D × (Sto → Bool))
  | .int n, s => rngO 0 n s
  | _, _ => .bad
@[simp] theorem rK_int (n : Int) : rK (.int n) s = rngO 0 n s := (rfl)
@[simp] theorem x_rng1 (a : E) : rng1 a e s = R.then (a e s) rK := by
  simp only [rng1, x_bd]; congr; funext d s; cases d <;> rfl
def rK2 : D → D → Sto → R (List D × (Sto → Bool))
  | .int l, .int n, s => rngO l n s
  | _, _, _ => .bad
@[simp] theorem rK2_int (l n : Int) : rK2 (.int l) (.int n) s = rngO l n s := (rfl)
@[simp] theorem x_rng2 (a b : E) : rng2 a b e s = R.then (a e s) fun d s => R.then (b e s) (rK2 d) := by
  simp only [rng2, x_bd]; congr; funext d s; congr; funext d' s; cases d <;> cases d' <;> rfl
@[simp] theorem x_enuS (a : E) : enuS a e s = R.then (a e s) fun x s => R.then (itemsO x s) fun xs s => .ok (enumL 0 xs, watch x s) s := by simp only [enuS, bdT]
@[simp] theorem x_zipS (a b : E) : zipS a b e s = R.then (a e s) fun x s => R.then (b e s) fun y s => R.then (itemsO x s) fun xs s => R.then (itemsO y s) fun ys s => .ok ((xs.zip ys).map fun p => .tup [p.1, p.2], fun s' => watch x s s' && watch y s s') s := by
  simp only [zipS, bdT]
@[simp] theorem x_cmpF (src : Src) (tg : Tg) (t : T) (elt : E) (vs : List Nat) : cmpF src tg t elt vs e s = R.then (src e s) fun p s => R.then (compL tg t elt p.2 (wipeE e vs) p.1 s) fun xs s => grd (p.2 s = true) (grd (xs.length ≤ 16777216) (.ok xs s)) := by
  simp only [cmpF, x_bd]; congr; funext p s
  congr; funext xs s; by_cases h1 : p.2 s = true <;> by_cases h2 : xs.length ≤ LIM <;> (have h3 := h2; unfold LIM at h3; simp [h1, h2, h3, grd_ok, grd_no])
def partO : D → Sto → R (Option Int)
  | .int i, s => .ok (some i) s
  | _, _ => .bad
@[simp] theorem partO_int (i : Int) : partO (.int i) s = .ok (some i) s := (rfl)
@[simp] theorem x_part0 : part none e s = .ok none s := (rfl)
@[simp] theorem x_part1 (a : E) : part (some a) e s = R.then (a e s) partO := by
  simp only [part, x_bd]; congr; funext d s; cases d <;> rfl
@[simp] theorem x_slcE (a : E) (lo hi : Option E) : slcE a lo hi e s = R.then (a e s) fun x s => R.then (part lo e s) fun l s => R.then (part hi e s) fun h s => slcO l h x s := by simp only [slcE, bdT]
@[simp] theorem x_listF (a : E) : listF a e s = R.then (a e s) itemsO := by simp only [listF, bdT]
@[simp] theorem x_appE (o a : E) : appE o a e s = R.then (o e s) fun d s => R.then (lstQ d s) fun _ s => R.then (a e s) (appO d) := by simp only [appE, bdT]
@[simp] theorem x_catF (a b : E) : catF a b e s = R.then (a e s) fun x s => R.then (b e s) fun y s => R.then (lstQ x s) fun xs s => R.then (lstQ y s) fun ys s => grd (xs.length + ys.length ≤ 16777216) (.ok (xs ++ ys) s) := by
  simp only [catF, x_bd]; congr; funext x s; congr; funext y s; congr; funext xs s; congr; funext ys s
  show (if xs.length + ys.length ≤ LIM then pu (xs ++ ys) else no) s = _; unfold LIM; rw [← grd_dec]; split <;> rfl
@[simp] theorem x_nxS : nxS e s = .nx e s := (rfl)
@[simp] theorem x_ctS : ctS e s = .ct e s := (rfl)
@[simp] theorem x_noS : noS e s = .bad := (rfl)
@[simp] theorem x_seq (a b : St) : seq a b e s = RS.then (a e s) b := by simp only [seq, RS.then] <;> cases a e s <;> rfl
theorem x_ev (m : En → M α) (k : α → St) : ev m k e s = R.go (m e s) e fun d s => k d e s := by simp only [ev, R.go] <;> cases m e s <;> rfl
@[simp] theorem x_setS (i : Nat) (a : E) : setS i a e s = R.go (a e s) e fun d s => .nx (e.set i (.va d)) s := by simp only [setS, x_ev]
def putK : Option En → Sto → RS
  | some e, s => .nx e s
  | none, _ => .bad
@[simp] theorem putK_some : putK (some e) s = .nx e s := (rfl)
@[simp] theorem x_asgS (tg : Tg) (a : E) : asgS tg a e s = R.go (a e s) e fun d s => putK (tg.put d e) s := by
  simp only [asgS, x_ev]; congr; funext d s; cases tg.put d e <;> rfl
@[simp] theorem x_exprS (a : E) : exprS a e s = R.go (a e s) e fun _ s => .nx e s := by simp only [exprS, x_ev]; rfl
@[simp] theorem x_retS (a : E) : retS a e s = R.go (a e s) e RS.rt := by simp only [retS, x_ev]
@[simp] theorem x_ifS (t : T) (a b : St) : ifS t a b e s = R.go (t e s) e fun c s => if c = true then a e s else b e s := by
  simp only [ifS, x_ev]; congr; funext c s; cases c <;> rfl
@[simp] theorem x_raiS (c : Nat) (ns : List Sy) (a : Es) : raiS c ns a e s = R.go (a e s) e fun vs s => .ex e c ns vs s := by simp only [raiS, x_ev]
@[simp] theorem x_augS (i : Nat) (o : D → D → M D) (a : E) : augS i o a e s = R.go (binE o (vE i) a e s) e fun d s => .nx (e.set i (.va d)) s := by simp only [augS, x_setS]
@[simp] theorem x_forS (src : Src) (tg : Tg) (b : St) : forS src tg b e s = R.go (src e s) e fun p s => loopL tg b p.2 p.1 e s := by simp only [forS, ev, R.go] <;> cases src e s <;> rfl
@[simp] theorem x_putS (o i v : E) : putS o i v e s = R.go (v e s) e fun d s => R.go (o e s) e fun a s => R.go (i e s) e fun b s => R.go (putO a b d s) e fun _ s => .nx e s := by
  simp only [putS, x_ev]; rfl
@[simp] theorem x_fn (p n : Nat) (b : St) (ds : List D) : fn p n b ds s = if ds.length = p then RS.fin (b (ds.map .va ++ List.replicate (n - ds.length) .un) s) else .bad := by
  simp only [fn]; split
  · cases b (ds.map .va ++ List.replicate (n - ds.length) .un) s <;> rfl
  · rfl
@[simp] theorem x_fnL (n : Nat) (b : M D → St) (act : M D) : fnL n b act s = RS.fin (b act (.fu :: List.replicate (n - 1) .un) s) := by
  simp only [fnL] <;> cases b act (.fu :: List.replicate (n - 1) .un) s <;> rfl
@[simp] theorem o_tupO (xs : List D) : tupO xs s = grd (xs.length ≤ 16777216) (.ok (.tup xs) s) := by unfold tupO LIM; rw [← grd_dec]; split <;> rfl
@[simp] theorem o_add (i j : Int) : addO (.int i) (.int j) s = .ok (.int (i + j)) s := (rfl)
@[simp] theorem o_addT (x y : List D) : addO (.tup x) (.tup y) s = grd (x.length + y.length ≤ 16777216) (.ok (.tup (x ++ y)) s) := by unfold addO LIM; simp only; rw [← grd_dec]; split <;> rfl
@[simp] theorem o_addS (x y : Sy) : addO (.str x) (.str y) s = grd (x.length + y.length ≤ 16777216) (.ok (.str (x ++ y)) s) := by unfold addO LIM; simp only; rw [← grd_dec]; split <;> rfl
@[simp] theorem o_sub (i j : Int) : subO (.int i) (.int j) s = .ok (.int (i - j)) s := (rfl)
@[simp] theorem o_neg (i : Int) : negO (.int i) s = .ok (.int (-i)) s := (rfl)
@[simp] theorem o_lt (i j : Int) : ltO (.int i) (.int j) s = .ok (.bl (decide (i < j))) s := (rfl)
@[simp] theorem o_le (i j : Int) : leO (.int i) (.int j) s = .ok (.bl (decide (i ≤ j))) s := (rfl)
@[simp] theorem o_gt (i j : Int) : gtO (.int i) (.int j) s = .ok (.bl (decide (j < i))) s := (rfl)
@[simp] theorem o_ge (i j : Int) : geO (.int i) (.int j) s = .ok (.bl (decide (j ≤ i))) s := (rfl)
@[simp] theorem o_isn (d : D) : isnO d s = .ok (.bl (decide (d = .non))) s := (rfl)
@[simp] theorem o_notn (d : D) : notnO d s = .ok (.bl (!decide (d = .non))) s := (rfl)
@[simp] theorem o_eqI (i j : Int) : eqO (.int i) (.int j) s = .ok (.bl (decide (i = j))) s := by
  rw [ML.eq_int]; congr 2
@[simp] theorem o_neI (i j : Int) : neO (.int i) (.int j) s = .ok (.bl (decide (i ≠ j))) s := by
  rw [ML.ne_int]; congr 2; by_cases h : i = j <;> simp [h]
@[simp] theorem o_eqB (i j : Bool) : eqO (.bl i) (.bl j) s = .ok (.bl (i == j)) s := ML.eq_bl i j s
@[simp] theorem o_neB (i j : Bool) : neO (.bl i) (.bl j) s = .ok (.bl (!(i == j))) s := ML.ne_bl i j s
@[simp] theorem o_mod (i j : Int) (h : 0 < j) : modO (.int i) (.int j) s = .ok (.int (i % j)) s := by simp [modO, h]
@[simp] theorem o_mul (i j : Int) : mulO (.int i) (.int j) s = grd (mulOk i j = true) (.ok (.int (i * j)) s) := by unfold mulO; simp only; rw [← grd_dec]; split <;> rfl
theorem mulOk_of {i j : Int} (a : Nat) (hi : i.natAbs < 2 ^ 400) (hj : j.natAbs < 2 ^ 400) : mulOk i j = true := ML.mulOk_of hi hj
@[simp] theorem o_pow (i j : Int) : powO (.int i) (.int j) s = grd (0 ≤ j ∧ j ≤ 1000000 ∧ i.natAbs < 18446744073709551616) (.ok (.int (i ^ j.toNat)) s) := by
  unfold powO; simp only [show (2 : Nat) ^ 64 = 18446744073709551616 from by decide]; rw [← grd_dec]; split <;> rfl
@[simp] theorem o_fdiv (i j : Int) (h : 0 < j) (h2 : j.natAbs.log2 < 9000) : fdivO (.int i) (.int j) s = .ok (.int (i / j)) s := by unfold fdivO; simp only; rw [if_pos ⟨h, h2⟩]; rfl
@[simp] theorem o_blO (b : Bool) : blO (.bl b) s = .ok b s := (rfl)
@[simp] theorem o_truB (b : Bool) : truO (.bl b) s = .ok b s := (rfl)
@[simp] theorem o_truI (i : Int) : truO (.int i) s = .ok (i != 0) s := (rfl)
@[simp] theorem o_truT (xs : List D) : truO (.tup xs) s = .ok (!xs.isEmpty) s := (rfl)
@[simp] theorem o_itT (xs : List D) : itemsO (.tup xs) s = .ok xs s := (rfl)
@[simp] theorem o_itL (xs : List D) : itemsO (.lst xs) s = .ok xs s := (rfl)
def itK : Option Ob → Sto → R (List D)
  | some ⟨_, .lst xs⟩, s => .ok xs s
  | _, _ => .bad
@[simp] theorem itK_some (w : Bool) (xs : List D) : itK (some ⟨w, .lst xs⟩) s = .ok xs s := (rfl)
@[simp] theorem o_itR (n : Nat) : itemsO (.ref n) s = itK s[n]? s := by
  simp only [itemsO] <;> rcases s[n]? with _ | ⟨w, _ | _ | _⟩ <;> rfl
@[simp] theorem o_lenS (z : Sy) : lenO [.str z] s = grd (z.length ≤ 16777216) (.ok (.int z.length) s) := by unfold lenO len1 LIM; simp only; rw [← grd_dec]; split <;> rfl
@[simp] theorem o_lenT (xs : List D) : lenO [.tup xs] s = .ok (.int xs.length) s := (rfl)
@[simp] theorem o_lenL (xs : List D) : lenO [.lst xs] s = .ok (.int xs.length) s := (rfl)
@[simp] theorem o_lenR (n : Nat) : lenO [.ref n] s = R.then (itK s[n]? s) fun xs s => .ok (.int xs.length) s := by simp only [lenO, len1, x_bd, o_itR]; rfl
@[simp] theorem o_tuple (xs : List D) : tupleO [.lst xs] s = .ok (.tup xs) s := (rfl)
@[simp] theorem o_tupleT (xs : List D) : tupleO [.tup xs] s = .ok (.tup xs) s := (rfl)
@[simp] theorem o_tupleR (n : Nat) : tupleO [.ref n] s = R.then (itK s[n]? s) fun xs s => .ok (.tup xs) s := by simp only [tupleO, tup1, litO, x_bd, o_itR]; rfl
@[simp] theorem o_sumT (l : List Int) : sumO [.tup (l.map .int)] s = .ok (.int l.sum) s := by simp [sumO, ML.intOf_map]
@[simp] theorem o_sumL (l : List Int) : sumO [.lst (l.map .int)] s = .ok (.int l.sum) s := by simp [sumO, ML.intOf_map]
theorem blsOf_map : ∀ l : List Bool, blsOf (l.map .bl) = some l
  | [] => rfl
  | z :: r => by simp [blsOf, blsOf_map r]
@[simp] theorem o_all (l : List Bool) : allO [.lst (l.map .bl)] s = .ok (.bl (l.all id)) s := by simp [allO, litO, blsOf_map]
@[simp] theorem o_any (l : List Bool) : anyO [.lst (l.map .bl)] s = .ok (.bl (l.any id)) s := by simp [anyO, litO, blsOf_map]
@[simp] theorem o_abs (i : Int) : absO [.int i] s = .ok (.int (if i < 0 then -i else i)) s := (rfl)
@[simp] theorem o_intI (i : Int) : intO [.int i] s = .ok (.int i) s := (rfl)
@[simp] theorem o_intB (b : Bool) : intO [.bl b] s = .ok (.int (if b then 1 else 0)) s := (rfl)
@[simp] theorem o_min2 (i j : Int) : min2O [.int i, .int j] s = .ok (.int (if j < i then j else i)) s := (rfl)
@[simp] theorem o_max2 (i j : Int) : max2O [.int i, .int j] s = .ok (.int (if j > i then j else i)) s := (rfl)
@[simp] theorem o_isi0 (t : Ty) : isiO t [.non] s = .ok (.bl false) s := (rfl)
@[simp] theorem o_isiB (t : Ty) (b : Bool) : isiO t [.bl b] s = .ok (.bl (t == .bool || t == .int)) s := (rfl)
@[simp] theorem o_isiI (t : Ty) (b : Int) : isiO t [.int b] s = .ok (.bl (t == .int)) s := (rfl)
@[simp] theorem o_isiS (t : Ty) (b : Sy) : isiO t [.str b] s = .ok (.bl (t == .str)) s := (rfl)
@[simp] theorem o_isiT (t : Ty) (b : List D) : isiO t [.tup b] s = .ok (.bl (t == .tuple)) s := (rfl)
@[simp] theorem o_isiL (t : Ty) (b : List D) : isiO t [.lst b] s = .ok (.bl (t == .list)) s := (rfl)
def isK (t : Ty) : Option Ob → Sto → R D
  | some ⟨_, .lst _⟩, s => .ok (.bl (t == .list)) s
  | some ⟨_, .dct _⟩, s => .ok (.bl (t == .dict)) s
  | _, _ => .bad
@[simp] theorem isK_lst (t : Ty) (w : Bool) (xs : List D) : isK t (some ⟨w, .lst xs⟩) s = .ok (.bl (t == .list)) s := (rfl)
@[simp] theorem o_isiR (t : Ty) (n : Nat) : isiO t [.ref n] s = isK t s[n]? s := by
  simp only [isiO] <;> rcases s[n]? with _ | ⟨w, _ | _ | _⟩ <;> rfl
def lqK : Option Ob → Sto → R (List D)
  | some ⟨true, .lst xs⟩, s => .ok xs s
  | _, _ => .bad
@[simp] theorem lqK_some (xs : List D) : lqK (some ⟨true, .lst xs⟩) s = .ok xs s := (rfl)
@[simp] theorem o_lstQ (n : Nat) : lstQ (.ref n) s = lqK s[n]? s := by
  simp only [lstQ] <;> rcases s[n]? with _ | ⟨_ | _, _ | _ | _⟩ <;> rfl
noncomputable def apK (n : Nat) (y : D) : Option Ob → Sto → R D
  | some ⟨true, .lst xs⟩, s => grd (xs.length < 16777216) (.ok .non (s.set n ⟨true, .lst (xs ++ [y])⟩))
  | _, _ => .bad
@[simp] theorem apK_some (n : Nat) (y : D) (xs : List D) : apK n y (some ⟨true, .lst xs⟩) s = grd (xs.length < 16777216) (.ok .non (s.set n ⟨true, .lst (xs ++ [y])⟩)) := (rfl)
@[simp] theorem o_app (n : Nat) (y : D) : appO (.ref n) y s = apK n y s[n]? s := by
  simp only [appO, mutL, apK]
  rcases s[n]? with _ | ⟨_ | _, xs | _ | _⟩ <;> try rfl
  by_cases h : xs.length < LIM
  · have h2 : xs.length < 16777216 := h
    have : (xs ++ [y]).length ≤ LIM := by rw [List.length_append, List.length_singleton]; exact h
    simp only [if_pos h, if_pos this, grd_ok _ h2]
  · have h2 : ¬ xs.length < 16777216 := h
    simp only [if_neg h, grd_no _ h2]
@[simp] theorem o_rng (lo hi : Int) : rngO lo hi s = grd (-4611686018427387904 ≤ lo ∧ lo < 4611686018427387904 ∧ -4611686018427387904 ≤ hi ∧ hi < 4611686018427387904) (.ok (iRow lo (hi - lo).toNat, fun _ => true) s) := by
  unfold rngO B62; rw [← grd_dec]; split <;> rfl
@[simp] theorem o_watT (xs : List D) : watch (.tup xs) s = fun _ => true := (rfl)
@[simp] theorem o_watL (xs : List D) : watch (.lst xs) s = fun _ => true := (rfl)
@[simp] theorem o_slcT (l h : Option Int) (xs : List D) : slcO l h (.tup xs) s = .ok (.tup (cutL xs l h)) s := (rfl)
/-- a place of a row; nothing is asked of the place -/
def gt {α} [Inhabited α] (l : List α) (i : Int) : α := l.getD i.toNat default
def atK (xs : List D) (i : Int) (s : Sto) : R D := idxSeq i xs s
@[simp] theorem x_ixT (xs : List D) (i : Int) : idxO (.tup xs) (.int i) s = atK xs i s := (rfl)
@[simp] theorem x_ixL (xs : List D) (i : Int) : idxO (.lst xs) (.int i) s = atK xs i s := (rfl)
@[simp] theorem x_ixR (n : Nat) (i : Int) : idxO (.ref n) (.int i) s = R.then (itK s[n]? s) fun xs s => atK xs i s := by
  show bd (itemsO (.ref n)) (idxSeq i) s = _
  rw [x_bd, o_itR]; rfl
@[simp] theorem at_map {α} [Inhabited α] (f : α → D) (l : List α) (i : Int) (h : 0 ≤ i) : atK (l.map f) i s = grd (i < l.length) (.ok (f (gt l i)) s) := by
  unfold atK idxSeq ixO gt
  rw [if_pos h, List.length_map]
  by_cases g : i < l.length
  · have g2 : i.toNat < l.length := by omega
    rw [if_pos g, grd_ok _ g]
    simp [g2]
  · rw [if_neg g, grd_no _ g]; rfl
@[simp] theorem at_0 (d : D) (l : List D) : atK (d :: l) 0 s = .ok d s := by simp [atK, idxSeq, ixO]
@[simp] theorem at_1 (a b : D) (l : List D) : atK (a :: b :: l) 1 s = .ok b s := by
  have : (1 : Int) < (l.length : Int) + 1 + 1 := by omega
  simp [atK, idxSeq, ixO, this]
@[simp] theorem at_2 (a b c : D) (l : List D) : atK (a :: b :: c :: l) 2 s = .ok c s := by
  have : (2 : Int) < (l.length : Int) + 1 + 1 + 1 := by omega
  simp [atK, idxSeq, ixO, this]
@[simp] theorem at_3 (a b c d : D) (l : List D) : atK (a :: b :: c :: d :: l) 3 s = .ok d s := by
  have : (3 : Int) < (l.length : Int) + 1 + 1 + 1 + 1 := by omega
  simp [atK, idxSeq, ixO, this]
@[simp] theorem at_4 (a b c d f : D) (l : List D) : atK (a :: b :: c :: d :: f :: l) 4 s = .ok f s := by
  have : (4 : Int) < (l.length : Int) + 1 + 1 + 1 + 1 + 1 := by omega
  simp [atK, idxSeq, ixO, this]
theorem at_lit (l : List D) (k : Nat) (d : D) (h : l[k]? = some d) : atK l (k : Int) s = .ok d s := by
  have : k < l.length := (List.getElem?_eq_some_iff.mp h).1
  unfold atK idxSeq ixO
  rw [if_pos (by omega), if_pos (by omega)]
  simp [h]
@[simp] theorem put_nm (i : Nat) (d : D) : Tg.put (.nm i) d e = some (e.set i (.va d)) := (rfl)
@[simp] theorem put_tp (i j : Nat) (a b : D) : Tg.put (.tp [i, j]) (.tup [a, b]) e = some ((e.set i (.va a)).set j (.va b)) := (rfl)
@[simp] theorem wipe_nil : wipeE e [] = e := (rfl)
@[simp] theorem wipe_cons (v : Nat) (vs) : wipeE e (v :: vs) = (wipeE e vs).set v .un := (rfl)
end
end MP
namespace MP
section
variable {α β γ : Type}
def runL (F : α → Sto → R β) (ok : Sto → Bool) : List α → Sto → R (List β)
  | [], s => .ok [] s
  | x :: l, s => if ok s = true then R.then (F x s) fun b s => R.then (runL F ok l s) fun bs s => .ok (b :: bs) s else .bad
theorem runL_congr' {F G : α → Sto → R β} {ok : Sto → Bool} : ∀ {l : List α} {s : Sto}, (∀ x, x ∈ l → ∀ t, F x t = G x t) → runL F ok l s = runL G ok l s
  | [], _, _ => rfl
  | x :: l, s, h => by
    have ih : ∀ t, runL F ok l t = runL G ok l t := fun t => runL_congr' fun y hy => h y (List.mem_cons_of_mem _ hy)
    have ih2 : runL F ok l = runL G ok l := funext ih
    rw [runL, runL, h x List.mem_cons_self, ih2]
@[simp] theorem runL_pure (f : α → β) : ∀ (l : List α) (s : Sto), runL (fun x s => .ok (f x) s) (fun _ => true) l s = .ok (l.map f) s
  | [], _ => rfl
  | x :: l, s => by simp [runL, runL_pure f l]
theorem runL_val {F : α → Sto → R β} {f : α → β} {l : List α} {s : Sto} (h : ∀ x ∈ l, ∀ t, F x t = .ok (f x) t) : runL F (fun _ => true) l s = .ok (l.map f) s := by
  rw [runL_congr' (G := fun x t => .ok (f x) t) h, runL_pure]
theorem runL_pureG (p : α → Prop) (f : α → β) : ∀ (l : List α) (s : Sto), runL (fun x s => grd (p x) (.ok (f x) s)) (fun _ => true) l s = grd (∀ x ∈ l, p x) (.ok (l.map f) s)
  | [], s => by rw [grd_ok _ (fun x h => by simp at h)]; rfl
  | x :: l, s => by
    simp only [runL, if_true, grd_then, R.then_ok, runL_pureG p f l]
    by_cases h : p x
    · by_cases g : ∀ y ∈ l, p y
      · rw [grd_ok _ h, grd_ok _ g, grd_ok]
        · rfl
        · intro y hy
          rcases List.mem_cons.mp hy with q | q
          · rw [q]; exact h
          · exact g y q
      · rw [grd_ok _ h, grd_no _ g, grd_no]
        exact fun z => g fun y hy => z y (List.mem_cons_of_mem _ hy)
    · rw [grd_no _ h, grd_no]
      exact fun z => h (z x List.mem_cons_self)
@[simp] theorem runL_pureG' (p : α → Prop) (f : α → β) (l : List α) (s : Sto) : runL (fun x s => grd (p x) (.ok (f x) s)) (fun _ => true) l s = grd (∀ x ∈ l, p x) (.ok (l.map f) s) := runL_pureG p f l s
@[simp] theorem grd_grd {α} (p q : Prop) (x : R α) : grd p (grd q x) = grd (p ∧ q) x := by
  by_cases h : p <;> by_cases g : q <;> simp [grd_ok, grd_no, h, g]
@[simp] theorem ite_gl {α} (p q : Prop) [Decidable p] (x y : R α) : (if p then grd q x else y) = grd (p → q) (if p then x else y) := by
  by_cases h : p
  · by_cases g : q <;> simp [h, g, grd_ok, grd_no]
  · simp [h, grd_ok]
@[simp] theorem ite_gr {α} (p q : Prop) [Decidable p] (x y : R α) : (if p then x else grd q y) = grd (¬ p → q) (if p then x else y) := by
  by_cases h : p
  · simp [h, grd_ok]
  · by_cases g : q <;> simp [h, g, grd_ok, grd_no]
@[simp] theorem ite_sl (p q : Prop) [Decidable p] (x y : RS) : (if p then grS q x else y) = grS (p → q) (if p then x else y) := by
  by_cases h : p
  · by_cases g : q <;> simp [h, g, grS_ok, grS_no]
  · simp [h, grS_ok]
@[simp] theorem ite_sr (p q : Prop) [Decidable p] (x y : RS) : (if p then x else grS q y) = grS (¬ p → q) (if p then x else y) := by
  by_cases h : p
  · simp [h, grS_ok]
  · by_cases g : q <;> simp [h, g, grS_ok, grS_no]
@[simp] theorem grS_grS (p q : Prop) (x : RS) : grS p (grS q x) = grS (p ∧ q) x := by
  by_cases h : p <;> by_cases g : q <;> simp [grS_ok, grS_no, h, g]
@[simp] theorem ite_ok {α} (p : Prop) [Decidable p] (a b : α) (s : Sto) : (if p then R.ok a s else R.ok b s) = R.ok (if p then a else b) s := by split <;> rfl
@[simp] theorem ite_bl (p : Prop) [Decidable p] (a b : Bool) : (if p then D.bl a else D.bl b) = D.bl (if p then a else b) := by split <;> rfl
@[simp] theorem ite_int (p : Prop) [Decidable p] (a b : Int) : (if p then D.int a else D.int b) = D.int (if p then a else b) := by split <;> rfl
@[simp] theorem ite_tup (p : Prop) [Decidable p] (a b : List D) : (if p then D.tup a else D.tup b) = D.tup (if p then a else b) := by split <;> rfl
def runF (F : α → Sto → R (Option β)) (ok : Sto → Bool) : List α → Sto → R (List β)
  | [], s => .ok [] s
  | x :: l, s => if ok s = true then R.then (F x s) fun b s => R.then (runF F ok l s) fun bs s => .ok (b.toList ++ bs) s else .bad
@[simp] theorem compL_yes (tg : Tg) (elt : E) (ok : Sto → Bool) (e : En) (enc : α → D) : ∀ (l : List α) (s : Sto), compL tg yes elt ok e (l.map enc) s = runL (fun x s => match tg.put (enc x) e with | some e' => R.nx (elt e' s) | none => .bad) ok l s
  | [], _ => rfl
  | x :: l, s => by
    simp only [List.map_cons, compL, runL]
    by_cases h : ok s = true
    · simp only [h, if_true]
      cases tg.put (enc x) e with
      | none => rfl
      | some e' =>
        simp only [yes, bdT, x_nx, x_pu, R.nx_ok, R.then_ok, if_true]
        congr; funext b s
        rw [compL_yes]
        rfl
    · simp only [h]; rfl
end
end MP
namespace MP
@[simp] theorem row_def (r : List Int) : ML.row r = .tup (r.map .int) := (rfl)
@[simp] theorem rows_def (r : List (List Int)) : ML.rows r = .tup (r.map ML.row) := (rfl)
@[simp] theorem zip_maps {α β γ δ : Type} (f : α → γ) (g : β → δ) (a : List α) (b : List β) : (a.map f).zip (b.map g) = (a.zip b).map fun p => (f p.1, g p.2) := by
  rw [List.zip_map]; rfl
@[simp] theorem get0 {α} (a : α) (l : List α) : (a :: l)[0]? = some a := (rfl)
@[simp] theorem arr_nil {α : Type} (a m k : List α) : arr [] a m k = [] := (rfl)
@[simp] theorem arr_cons {α : Type} (w i : Nat) (pat : List (Nat × Nat)) (a m k : List α) : arr ((w, i) :: pat) a m k = ((sel w a m k)[i]?).toList ++ arr pat a m k := by
  unfold arr
  rw [List.filterMap_cons]
  cases h : (sel w a m k)[i]? <;> simp [h]
@[simp] theorem sel0 {α : Type} (a m k : List α) : sel 0 a m k = a := (rfl)
@[simp] theorem sel1 {α : Type} (a m k : List α) : sel 1 a m k = m := (rfl)
@[simp] theorem sel2 {α : Type} (a m k : List α) : sel 2 a m k = k := (rfl)
@[simp] theorem fcomp {α β γ : Type} (f : β → γ) (g : α → β) : f ∘ g = fun x => f (g x) := (rfl)
@[simp] theorem rep0 {α} (a : α) : List.replicate 0 a = [] := (rfl)
@[simp] theorem repS {α} (n : Nat) (a : α) : List.replicate (n + 1) a = a :: List.replicate n a := (rfl)
@[simp] theorem alT (a b : List D) : alike (.tup a) (.tup b) = true := (rfl)
@[simp] theorem alL (a b : List D) : alike (.lst a) (.lst b) = true := (rfl)
theorem enumL_map {α : Type} (f : α → D) : ∀ (l : List α) (k : Nat), enumL k (l.map f) = (l.zipIdx k).map fun p => .tup [.int p.2, f p.1]
  | [], _ => rfl
  | x :: l, k => by simp [enumL, enumL_map f l]
@[simp] theorem all_map {α : Type} (f : α → Bool) (l : List α) (s : Sto) : allO [.lst (l.map fun x => .bl (f x))] s = .ok (.bl (l.all f)) s := by
  have := o_all (s := s) (l.map f)
  simpa [List.map_map, Function.comp_def, List.all_map] using this
@[simp] theorem any_map {α : Type} (f : α → Bool) (l : List α) (s : Sto) : anyO [.lst (l.map fun x => .bl (f x))] s = .ok (.bl (l.any f)) s := by
  have := o_any (s := s) (l.map f)
  simpa [List.map_map, Function.comp_def, List.any_map] using this
@[simp] theorem sum_mapT {α : Type} (f : α → Int) (l : List α) (s : Sto) : sumO [.tup (l.map fun x => .int (f x))] s = .ok (.int (l.map f).sum) s := by
  have := o_sumT (s := s) (l.map f)
  simpa [List.map_map, Function.comp_def] using this
@[simp] theorem sum_mapL {α : Type} (f : α → Int) (l : List α) (s : Sto) : sumO [.lst (l.map fun x => .int (f x))] s = .ok (.int (l.map f).sum) s := by
  have := o_sumL (s := s) (l.map f)
  simpa [List.map_map, Function.comp_def] using this
end MP
namespace MP
section
variable {α σ : Type} {enc : α → D} {tg : Tg} {b : St} {ok : Sto → Bool}
/-- a loop over any items: an invariant by the place -/
theorem loop_inv (I : Nat → En → Sto → Prop) : ∀ (l : List α) (k : Nat) (e : En) (s : Sto), I k e s → (∀ i e s, I i e s → ok s = true) →
    (∀ i x e s, l[i]? = some x → I (k + i) e s → ∃ e1 e2 s2, tg.put (enc x) e = some e1 ∧ b e1 s = .nx e2 s2 ∧ I (k + i + 1) e2 s2) →
    ∃ e' s', loopL tg b ok (l.map enc) e s = .nx e' s' ∧ I (k + l.length) e' s'
  | [], k, e, s, h0, hk, _ => ⟨e, s, by simp [loopL, hk k e s h0], h0⟩
  | x :: l, k, e, s, h0, hk, h => by
    obtain ⟨e1, e2, s2, p1, p2, h1⟩ := h 0 x e s rfl h0
    obtain ⟨e', s', q1, q2⟩ := loop_inv I l (k + 1) e2 s2 h1 hk fun i y e s hy hi => by
      have := h (i + 1) y e s (by simpa using hy) (by rwa [show k + (i + 1) = k + 1 + i by omega])
      rwa [show k + (i + 1) = k + 1 + i by omega] at this
    refine ⟨e', s', ?_, by rw [List.length_cons, show k + (l.length + 1) = k + 1 + l.length by omega]; exact q2⟩
    simp only [List.map_cons, loopL, hk k e s h0, if_true, p1, p2]
    exact q1
/-- a loop that leaves at the first bad thing: r says how -/
theorem loop_find (en : σ → En) (s : Sto) (bad : α → Bool) (r : En → α → RS) (hr : ∀ e x, match r e x with | .rt _ _ => True | .ex _ _ _ _ _ => True | _ => False) (hok : ok s = true) : ∀ (l : List α) (a : σ),
    (∀ a x, x ∈ l → ∃ e1, tg.put (enc x) (en a) = some e1 ∧ (bad x = true → ∃ e2, b e1 s = r e2 x) ∧ (bad x = false → ∃ a', b e1 s = .nx (en a') s)) →
    (∃ x e, l.find? bad = some x ∧ loopL tg b ok (l.map enc) (en a) s = r e x) ∨ (l.find? bad = none ∧ ∃ a', loopL tg b ok (l.map enc) (en a) s = .nx (en a') s)
  | [], a, _ => .inr ⟨rfl, a, by simp [loopL, hok]⟩
  | x :: l, a, h => by
    obtain ⟨e1, p1, p2, p3⟩ := h a x List.mem_cons_self
    cases q : bad x with
    | true =>
      obtain ⟨e2, p4⟩ := p2 q
      refine .inl ⟨x, e2, by simp [q], ?_⟩
      have := hr e2 x
      simp only [List.map_cons, loopL, hok, if_true, p1, p4]
      revert this
      cases r e2 x <;> simp
    | false =>
      obtain ⟨a', p4⟩ := p3 q
      have ih := loop_find en s bad r hr hok l a' fun a y hy => h a y (List.mem_cons_of_mem _ hy)
      simp only [List.map_cons, loopL, hok, if_true, p1, p4, List.find?_cons, q]
      exact ih
end
/-- the first bad place -/
def fstB {α} (p : α → Bool) : List α → Nat → Option Nat
  | [], _ => none
  | x :: l, k => if p x then some k else fstB p l (k + 1)
theorem fstB_zip {α} (p : α → Bool) : ∀ (l : List α) (k : Nat), ((l.zipIdx k).find? fun z => p z.1).map (·.2) = fstB p l k
  | [], _ => rfl
  | x :: l, k => by
    simp only [List.zipIdx_cons, List.find?_cons, fstB]
    cases p x with
    | true => rfl
    | false => simpa using fstB_zip p l (k + 1)
theorem fstB_none {α} {p : α → Bool} : ∀ {l : List α} {k : Nat}, fstB p l k = none ↔ ∀ x ∈ l, p x = false
  | [], _ => by simp [fstB]
  | x :: l, k => by
    unfold fstB
    split
    · rename_i h; simp [h]
    · rename_i h; simp [fstB_none (l := l), h]
@[simp] theorem setAll_nil (ds : List D) (e : En) : setAll [] ds e = e := by cases ds <;> rfl
@[simp] theorem setAll_cons (i : Nat) (r : List Nat) (d : D) (s : List D) (e : En) : setAll (i :: r) (d :: s) e = setAll r s (e.set i (.va d)) := (rfl)
abbrev WrT (hs : List Hd) : Type := RS
def RS.tr (hs : List Hd) (x : RS) : WrT hs := match x with
  | .ex e' c ns vs s' => catch_ c ns vs e' s' hs
  | r => r
@[simp] theorem tr_nx (hs e s) : RS.tr hs (.nx e s) = .nx e s := (rfl)
@[simp] theorem tr_rt (hs d s) : RS.tr hs (.rt d s) = .rt d s := (rfl)
@[simp] theorem tr_bad (hs) : RS.tr hs .bad = .bad := (rfl)
@[simp] theorem tr_ex (hs e c ns vs s) : RS.tr hs (.ex e c ns vs s) = catch_ c ns vs e s hs := (rfl)
@[simp] theorem x_tryS (b : St) (hs : List Hd) (e : En) (s : Sto) : tryS b hs e s = RS.tr hs (b e s) := by
  simp only [tryS, RS.tr] <;> cases b e s <;> rfl
def actK (act : M D) : Option Sl → Sto → R D
  | some .fu, s => act s
  | _, _ => .bad
@[simp] theorem actK_fu (act : M D) (s : Sto) : actK act (some .fu) s = act s := (rfl)
@[simp] theorem x_actE (act : M D) (i : Nat) (e : En) (s : Sto) : actE act i e s = actK act e[i]? s := by
  simp only [actE] <;> rcases e[i]? with _ | (_ | d | _ | _) <;> rfl
/-- the end of an except suite -/
def RS.sui (i : Nat) : RS → RS
  | .nx e2 s2 => .nx (e2.set i .un) s2
  | .bk e2 s2 => .bk (e2.set i .un) s2
  | .ct e2 s2 => .ct (e2.set i .un) s2
  | .rt d s2 => .rt d s2
  | _ => .bad
@[simp] theorem sui_nx (i e s) : RS.sui i (.nx e s) = .nx (e.set i .un) s := (rfl)
@[simp] theorem sui_rt (i d s) : RS.sui i (.rt d s) = .rt d s := (rfl)
@[simp] theorem catch_nil (c ns vs e s) : catch_ c ns vs e s [] = .ex e c ns vs s := (rfl)
@[simp] theorem catch_cons (c : Nat) (ns : List Sy) (vs : List D) (e : En) (s : Sto) (k : Nat → Bool) (i : Nat) (b : List Sy → List D → St) (r : List Hd) : catch_ c ns vs e s (⟨k, some i, b⟩ :: r) = if k c = true then grS (i < e.length) (RS.sui i (b ns vs (e.set i .ex) s)) else catch_ c ns vs e s r := by
  by_cases h : k c = true
  · by_cases g : i < e.length
    · simp only [catch_, h, if_true, if_pos g, grS_ok _ g]
      cases b ns vs (e.set i .ex) s <;> rfl
    · simp only [catch_, h, if_true, if_neg g, grS_no _ g]
  · simp only [catch_, if_neg h]
def xfK (ns : List Sy) (vs : List D) (f : Sy) : Option Sl → Sto → R D
  | some .ex, s => match (ns.zip vs).lookup f with
    | some v => .ok v s
    | none => .bad
  | _, _ => .bad
@[simp] theorem x_xfE (ns : List Sy) (vs : List D) (i : Nat) (f : Sy) (e : En) (s : Sto) : xfE ns vs i f e s = xfK ns vs f e[i]? s := by
  simp only [xfE, xfK]
  rcases e[i]? with _ | (_ | d | _ | _) <;> try rfl
  simp only
  cases (ns.zip vs).lookup f <;> rfl
@[simp] theorem xfK_hd (n : Sy) (ns : List Sy) (v : D) (vs : List D) (f : Sy) (s : Sto) : xfK (n :: ns) (v :: vs) f (some .ex) s = if f = n then .ok v s else xfK ns vs f (some .ex) s := by
  simp only [xfK, List.zip_cons_cons, List.lookup_cons]
  by_cases h : f = n
  · simp [h]
  · have : (f == n) = false := by simpa using h
    simp [this, h]
/-- one thing many times -/
@[simp] theorem o_rep (z k : Int) (s : Sto) : mulO (.tup [.int z]) (.int k) s = grd (-1000000 ≤ k ∧ k ≤ 1000) (.ok (.tup ((List.replicate k.toNat z).map .int)) s) := by
  unfold mulO
  simp only [List.length_singleton, ne_eq, List.cons_ne_self, not_false_eq_true, reduceCtorEq, true_and]
  by_cases h1 : 2 ≤ k
  · by_cases h2 : k ≤ 1000
    · rw [if_pos ⟨h1, h2, by decide⟩, grd_ok _ ⟨by omega, h2⟩]
      simp
    · rw [if_neg (fun q => h2 q.2.1), if_neg (by omega), if_neg (by omega), grd_no _ (fun q => h2 q.2)]
      rfl
  · rw [if_neg (fun q => h1 q.1)]
    by_cases h3 : k = 1
    · subst h3
      rw [if_pos rfl, grd_ok _ ⟨by omega, by omega⟩]
      rfl
    · rw [if_neg h3]
      have h4 : k ≤ 0 := by omega
      have h5 : k.toNat = 0 := by omega
      by_cases h6 : -1000000 ≤ k
      · rw [if_pos ⟨h4, h6⟩, grd_ok _ ⟨h6, by omega⟩, h5]
        rfl
      · rw [if_neg (fun q => h6 q.2), grd_no _ (fun q => h6 q.1)]
        rfl
def RS.lp (k : En → Sto → RS) (x : RS) : WrS k := match x with
  | .nx e s => k e s
  | .ct e s => k e s
  | .bk e s => .nx e s
  | r => r
@[simp] theorem lp_nx (k e s) : RS.lp k (.nx e s) = k e s := (rfl)
@[simp] theorem lp_ct (k e s) : RS.lp k (.ct e s) = k e s := (rfl)
@[simp] theorem lp_bk (k e s) : RS.lp k (.bk e s) = .nx e s := (rfl)
@[simp] theorem lp_rt (k d s) : RS.lp k (.rt d s) = .rt d s := (rfl)
@[simp] theorem lp_ex (k e c ns vs s) : RS.lp k (.ex e c ns vs s) = .ex e c ns vs s := (rfl)
@[simp] theorem lp_bad (k) : RS.lp k .bad = .bad := (rfl)
@[simp] theorem lp_ite (p : Prop) [Decidable p] (x y : RS) (k : En → Sto → RS) : RS.lp k (if p then x else y) = if p then RS.lp k x else RS.lp k y := by split <;> rfl
@[simp] theorem lp_grS (p : Prop) (x : RS) (k : En → Sto → RS) : RS.lp k (grS p x) = grS p (RS.lp k x) := by
  by_cases h : p
  · rw [grS_ok _ h, grS_ok _ h]
  · rw [grS_no _ h, grS_no _ h]; rfl
@[simp] theorem loopL_nil (tg : Tg) (b : St) (ok : Sto → Bool) (e : En) (s : Sto) : loopL tg b ok [] e s = grS (ok s = true) (.nx e s) := by
  by_cases h : ok s = true
  · rw [grS_ok _ h]; simp only [loopL, h, if_true]
  · rw [grS_no _ h]; simp only [loopL, if_neg h]
@[simp] theorem o_watR (n : Nat) (s0 s : Sto) : watch (.ref n) s0 s = decide (s0[n]? = s[n]?) := (rfl)
@[simp] theorem cutL_map {α β : Type} (f : α → β) (xs : List α) (lo hi : Option Int) : cutL (xs.map f) lo hi = (cutL xs lo hi).map f := by simp [cutL, List.map_take, List.map_drop]
theorem cutL_le {α : Type} (xs : List α) (lo hi : Option Int) : (cutL xs lo hi).length ≤ xs.length := by
  unfold cutL
  rw [List.length_take, List.length_drop]
  omega
theorem mem_cutL {α : Type} {xs : List α} {lo hi : Option Int} {x : α} (h : x ∈ cutL xs lo hi) : x ∈ xs := List.mem_of_mem_drop (List.mem_of_mem_take h)
@[simp] theorem iRow_def (lo : Int) (n : Nat) : iRow lo n = (List.range n).map fun i => .int (lo + (i : Nat)) := (rfl)
theorem gt_eq {α} [Inhabited α] {l : List α} {i : Nat} (h : i < l.length) : gt l (i : Int) = l[i] := by simp [gt, h]
theorem noRefs_int : ∀ l : List Int, noRefs (l.map .int) = true
  | [] => rfl
  | x :: l => by simp [noRefs, noRef, noRefs_int l]
theorem shps_int (k : Nat) : ∀ l : List Int, shps k (l.map .int) = true
  | [] => rfl
  | x :: l => by simp [shps, shp, shps_int k l]
theorem pyEqs_int : ∀ a b : List Int, pyEqs (a.map .int) (b.map .int) = decide (a = b)
  | [], [] => rfl
  | [], _ :: _ => rfl
  | _ :: _, [] => rfl
  | x :: a, y :: b => by
    simp only [List.map_cons, pyEqs, pyEq, pyEqs_int a b, List.cons.injEq]
    by_cases h : x = y <;> by_cases g : a = b <;> simp [h, g]
theorem noRefs_row : ∀ l : List (List Int), noRefs (l.map ML.row) = true
  | [] => rfl
  | x :: l => by simp [noRefs, noRef, noRefs_int, noRefs_row l]
theorem shps_row (k : Nat) : ∀ l : List (List Int), shps (k + 1) (l.map ML.row) = true
  | [] => rfl
  | x :: l => by simp [shps, shp, shps_int, shps_row k l]
theorem pyEqs_row : ∀ a b : List (List Int), pyEqs (a.map ML.row) (b.map ML.row) = decide (a = b)
  | [], [] => rfl
  | [], _ :: _ => rfl
  | _ :: _, [] => rfl
  | x :: a, y :: b => by
    simp only [List.map_cons, pyEqs, pyEq, ML.row, pyEqs_int, List.cons.injEq]
    rw [pyEqs_row a b]
    by_cases h : x = y <;> by_cases g : a = b <;> simp [h, g]
section
variable (a b : List Int) (s : Sto)
@[simp] theorem o_eqRow : eqO (.tup (a.map .int)) (.tup (b.map .int)) s = .ok (.bl (decide (a = b))) s := by
  simp [eqO, deepO, noRef, noRefs_int, shp, shps_int, pyEq, pyEqs_int]
@[simp] theorem o_neRow : neO (.tup (a.map .int)) (.tup (b.map .int)) s = .ok (.bl (decide (a ≠ b))) s := by
  simp [neO, deepO, noRef, noRefs_int, shp, shps_int, pyEq, pyEqs_int]
@[simp] theorem o_eqNil : eqO (.tup (a.map .int)) (.tup []) s = .ok (.bl (decide (a = []))) s := o_eqRow a [] s
@[simp] theorem o_neNil : neO (.tup (a.map .int)) (.tup []) s = .ok (.bl (decide (a ≠ []))) s := o_neRow a [] s
def eqR (y : D) : Option Ob → Sto → R D
  | some ⟨_, .lst xs⟩, s => eqO (.lst xs) y s
  | _, _ => .bad
def neR (y : D) : Option Ob → Sto → R D
  | some ⟨_, .lst xs⟩, s => neO (.lst xs) y s
  | _, _ => .bad
@[simp] theorem eqR_some (y : D) (w : Bool) (xs : List D) : eqR y (some ⟨w, .lst xs⟩) s = eqO (.lst xs) y s := (rfl)
@[simp] theorem neR_some (y : D) (w : Bool) (xs : List D) : neR y (some ⟨w, .lst xs⟩) s = neO (.lst xs) y s := (rfl)
@[simp] theorem o_eqR (n : Nat) (y : D) : eqO (.ref n) y s = eqR y s[n]? s := by
  unfold eqO eqR
  simp only [deepO]
  rcases s[n]? with _ | ⟨w, xs | _ | _⟩ <;> try rfl
@[simp] theorem o_neR (n : Nat) (y : D) : neO (.ref n) y s = neR y s[n]? s := by
  unfold neO neR
  simp only [deepO]
  rcases s[n]? with _ | ⟨w, xs | _ | _⟩ <;> try rfl
@[simp] theorem o_eqS (a b : Sy) : eqO (.str a) (.str b) s = grd (a.all (· < 1114112) = true ∧ b.all (· < 1114112) = true) (.ok (.bl (decide (a = b))) s) := by
  rw [← grd_dec]
  unfold eqO
  simp only [deepO, noRef, shp, pyEq, if_true]
  by_cases h : a.all (· < 1114112) = true <;> by_cases g : b.all (· < 1114112) = true <;> simp [h, g] <;> (by_cases q : a = b <;> simp_all)
@[simp] theorem o_neS (a b : Sy) : neO (.str a) (.str b) s = grd (a.all (· < 1114112) = true ∧ b.all (· < 1114112) = true) (.ok (.bl (decide (a ≠ b))) s) := by
  rw [← grd_dec]
  unfold neO
  simp only [deepO, noRef, shp, pyEq, if_true]
  by_cases h : a.all (· < 1114112) = true <;> by_cases g : b.all (· < 1114112) = true <;> simp [h, g] <;> (by_cases q : a = b <;> simp_all)
@[simp] theorem o_eqNN : eqO (.tup []) (.tup []) s = .ok (.bl true) s := by simpa using o_eqRow [] [] s
@[simp] theorem o_neNN : neO (.tup []) (.tup []) s = .ok (.bl false) s := by simpa using o_neRow [] [] s
@[simp] theorem o_eqRows (a b : List (List Int)) : eqO (.tup (a.map ML.row)) (.tup (b.map ML.row)) s = .ok (.bl (decide (a = b))) s := by
  simp [eqO, deepO, noRef, noRefs_row, shp, shps_row, pyEq, pyEqs_row]
@[simp] theorem o_neRows (a b : List (List Int)) : neO (.tup (a.map ML.row)) (.tup (b.map ML.row)) s = .ok (.bl (decide (a ≠ b))) s := by
  simp [neO, deepO, noRef, noRefs_row, shp, shps_row, pyEq, pyEqs_row]
end
section
variable (s : Sto)
@[simp] theorem o_eqLI (a b : List Int) : eqO (.lst (a.map .int)) (.lst (b.map .int)) s = .ok (.bl (decide (a = b))) s := by
  simp [eqO, deepO, noRef, noRefs_int, shp, shps_int, pyEq, pyEqs_int]
@[simp] theorem o_neLI (a b : List Int) : neO (.lst (a.map .int)) (.lst (b.map .int)) s = .ok (.bl (decide (a ≠ b))) s := by
  simp [neO, deepO, noRef, noRefs_int, shp, shps_int, pyEq, pyEqs_int]
@[simp] theorem o_neLN (a : List Int) : neO (.lst (a.map .int)) (.lst []) s = .ok (.bl (decide (a ≠ []))) s := o_neLI s a []
@[simp] theorem o_eqLN (a : List Int) : eqO (.lst (a.map .int)) (.lst []) s = .ok (.bl (decide (a = []))) s := o_eqLI s a []
theorem flat_int (l : List Int) : (l.map D.int).all flatD = true := by simp [List.all_map, flatD]
theorem any_eq (x : Int) : ∀ l : List Int, ((l.map D.int).any fun a => pyEq a (.int x)) = decide (x ∈ l)
  | [] => rfl
  | y :: l => by
    rw [List.map_cons, List.any_cons, any_eq x l]
    by_cases h : y = x
    · subst h; simp [pyEq]
    · have h2 : ¬ x = y := fun q => h q.symm
      simp [pyEq, h, h2]
@[simp] theorem o_inT (x : Int) (l : List Int) : inO (.int x) (.tup (l.map .int)) s = .ok (.bl (decide (x ∈ l))) s := by
  unfold inO
  simp only [x_bd, o_itT, R.then_ok, inSeq, flat_int, flatD, Bool.and_self, if_true, any_eq]
  rfl
end
/-- xs.pop(i) -/
noncomputable def poK (n : Nat) (k : Int) : Option Ob → Sto → R D
  | some ⟨true, .lst xs⟩, s => grd (xs.length ≤ 16777216) (R.then (atK xs k s) fun d s => .ok d (s.set n ⟨true, .lst (xs.eraseIdx k.toNat)⟩))
  | _, _ => .bad
@[simp] theorem poK_some (n : Nat) (k : Int) (xs : List D) (s : Sto) : poK n k (some ⟨true, .lst xs⟩) s = grd (xs.length ≤ 16777216) (R.then (atK xs k s) fun d s => .ok d (s.set n ⟨true, .lst (xs.eraseIdx k.toNat)⟩)) := (rfl)
@[simp] theorem x_popE (o a : E) (e : En) (s : Sto) : popE o a e s = R.then (o e s) fun d s => R.then (lstQ d s) fun _ s => R.then (a e s) (popO d) := by simp only [popE, bdT]
def lrK : D → Sto → R (List D)
  | .int n, s => if 0 ≤ n ∧ n ≤ 16777216 then .ok (iRow 0 n.toNat) s else .bad
  | _, _ => .bad
@[simp] theorem lrK_int (n : Int) (s : Sto) : lrK (.int n) s = grd (0 ≤ n ∧ n ≤ 16777216) (.ok (iRow 0 n.toNat) s) := by
  rw [← grd_dec]; rfl
@[simp] theorem x_lrgF (a : E) (e : En) (s : Sto) : lrgF a e s = R.then (a e s) lrK := by
  simp only [lrgF, bdT]; congr; funext d s; cases d <;> try rfl
  simp only [lrK]; split <;> rfl
@[simp] theorem x_srtF (a : E) (e : En) (s : Sto) : srtF a e s = R.then (a e s) fun d s => R.then (itemsO d s) srtK := by
  simp only [srtF, bdT]
theorem allZ_map : ∀ ms : List Int, allZ (ms.map .int) = some ms
  | [] => rfl
  | m :: ms => by rw [List.map_cons, allZ, allZ_map ms]; rfl
@[simp] theorem srtK_ints (ms : List Int) (s : Sto) : srtK (ms.map .int) s = grd (ms.length < 64) (.ok ((srtZ ms).map .int) s) := by
  rw [← grd_dec, srtK, allZ_map]
  by_cases h : ms.length < 64 <;> simp only [h, if_true, if_false] <;> rfl
def slK (l h : Option Int) : D → Sto → R (List D)
  | .lst xs, s => .ok (cutL xs l h) s
  | .ref n, s => (match s[n]? with
    | some ⟨_, .lst xs⟩ => .ok (cutL xs l h) s
    | _ => .bad)
  | _, _ => .bad
@[simp] theorem slK_lst (l h : Option Int) (xs : List D) (s : Sto) : slK l h (.lst xs) s = .ok (cutL xs l h) s := (rfl)
@[simp] theorem x_slcF (a : E) (lo hi : Option E) (e : En) (s : Sto) : slcF a lo hi e s = R.then (a e s) fun x s => R.then (part lo e s) fun l s => R.then (part hi e s) fun h s => slK l h x s := by
  simp only [slcF, bdT]; congr; funext x s; congr; funext l s; congr; funext h s; cases x <;> rfl
@[simp] theorem o_str (i : Int) (s : Sto) : strO [.int i] s = grd (i.natAbs.log2 < 1920) (.ok (.str (numZ i)) s) := by
  show (if i.natAbs.log2 < 1920 then pu (D.str (numZ i)) else no) s = _
  by_cases h : i.natAbs.log2 < 1920
  · rw [if_pos h, grd_ok _ h]; rfl
  · rw [if_neg h, grd_no _ h]; rfl
@[simp] theorem o_intxI (i : Int) (s : Sto) : intxO [.int i] s = .ok (.int i) s := (rfl)
@[simp] theorem o_intxB (b : Bool) (s : Sto) : intxO [.bl b] s = .ok (.int (if b then 1 else 0)) s := (rfl)
theorem o_intxS {z : Sy} {n : Int} (h : intZ z = some n) (s : Sto) : intxO [.str z] s = grd (z.length ≤ 640) (.ok (.int n) s) := by
  rw [← grd_dec]
  show intK z s = _
  unfold intK
  rw [h]
  by_cases q : z.length ≤ 640 <;> simp only [q, if_true, if_false] <;> rfl
def strK : D → Sto → R Sy
  | .str z, s => .ok z s
  | _, _ => .bad
@[simp] theorem strK_str (z : Sy) (s : Sto) : strK (.str z) s = .ok z s := (rfl)
theorem strQ_eq (d : D) (s : Sto) : strQ d s = strK d s := by cases d <;> rfl
@[simp] theorem x_joinE (o a : E) (e : En) (s : Sto) : joinE o a e s = R.then (o e s) fun x s => R.then (strK x s) fun z s => R.then (a e s) fun y s => R.then (itemsO y s) (joinK z) := by
  simp only [joinE, bdT, strQ_eq]
theorem strsOf_map : ∀ zs : List Sy, strsOf (zs.map .str) = some zs
  | [] => rfl
  | z :: zs => by rw [List.map_cons, strsOf, strsOf_map zs]; rfl
@[simp] theorem joinK_strs (z : Sy) (zs : List Sy) (s : Sto) : joinK z (zs.map .str) s = grd ((zs.map (·.length)).sum + zs.length * z.length ≤ 16777216) (.ok (.str (TL.joinL z zs)) s) := by
  rw [← grd_dec, joinK, strsOf_map]
  show (if _ ≤ LIM then pu _ else no) s = _
  by_cases h : (zs.map (·.length)).sum + zs.length * z.length ≤ 16777216
  · have h2 : (zs.map (·.length)).sum + zs.length * z.length ≤ LIM := h
    rw [if_pos h, if_pos h2]; rfl
  · have h2 : ¬ (zs.map (·.length)).sum + zs.length * z.length ≤ LIM := h
    rw [if_neg h, if_neg h2]; rfl
@[simp] theorem x_splF (o a : E) (e : En) (s : Sto) : splF o a e s = R.then (o e s) fun x s => R.then (strK x s) fun z s => R.then (a e s) fun y s => R.then (strK y s) (splK z) := by
  simp only [splF, bdT, strQ_eq]
@[simp] theorem splK_one (z : Sy) (k : Nat) (s : Sto) : splK z [k] s = grd (k < 256 ∧ z.length + 2 ≤ 16777216) (.ok ((TL.spl [k] 0 [] z).map .str) s) := by
  unfold splK
  by_cases h : k < 256 ∧ z.length + 2 ≤ 16777216
  · have h2 : [k] ≠ [] ∧ [k].all (· < 256) = true ∧ z.length + 2 ≤ LIM := ⟨by simp, by simpa using h.1, h.2⟩
    rw [if_pos h2, grd_ok _ h]; rfl
  · have h2 : ¬([k] ≠ [] ∧ [k].all (· < 256) = true ∧ z.length + 2 ≤ LIM) := fun q => h ⟨by simpa using q.2.1, q.2.2⟩
    rw [if_neg h2, grd_no _ h]; rfl
@[simp] theorem x_rmpE (o a : E) (e : En) (s : Sto) : rmpE o a e s = R.then (o e s) fun x s => R.then (strK x s) fun z s => R.then (a e s) fun y s => R.then (strK y s) (rmpK z) := by
  simp only [rmpE, bdT, strQ_eq]
@[simp] theorem o_rmpK (z p : Sy) (s : Sto) : rmpK z p s = grd (z.length ≤ 16777216) (.ok (.str (if TL.pre p z = true then z.drop p.length else z)) s) := by
  unfold rmpK
  by_cases h : z.length ≤ 16777216
  · have h2 : z.length ≤ LIM := h
    rw [if_pos h2, grd_ok _ h]; rfl
  · have h2 : ¬ z.length ≤ LIM := h
    rw [if_neg h2, grd_no _ h]; rfl
@[simp] theorem x_strS (a : E) (e : En) (s : Sto) : strS a e s = R.then (a e s) fun d s => R.then (strK d s) fun z s => .ok (z.map fun c => .str [c], fun _ => true) s := by
  simp only [strS, bdT]; congr; funext x s; cases x <;> rfl
@[simp] theorem o_inS (c : Nat) (z : Sy) (s : Sto) : inO (.str [c]) (.str z) s = .ok (.bl (decide (c ∈ z))) s := (rfl)
@[simp] theorem o_smul (z : Sy) (k : Int) (s : Sto) : smulO (.str z) (.int k) s = grd (1 ≤ k ∧ k ≤ 1000 ∧ z.length ≤ 1000) (.ok (.str (List.replicate k.toNat z).flatten) s) := by
  show (if 1 ≤ k ∧ k ≤ 1000 ∧ z.length ≤ 1000 then pu (D.str (List.replicate k.toNat z).flatten) else no) s = _
  by_cases h : 1 ≤ k ∧ k ≤ 1000 ∧ z.length ≤ 1000
  · rw [if_pos h, grd_ok _ h]; rfl
  · rw [if_neg h, grd_no _ h]; rfl
@[simp] theorem o_slcS (l h : Option Int) (z : Sy) (s : Sto) : slcO l h (.str z) s = grd (z.length ≤ 16777216) (.ok (.str (cutL z l h)) s) := by
  show (if z.length ≤ LIM then pu (D.str (cutL z l h)) else no) s = _
  by_cases q : z.length ≤ 16777216
  · have q2 : z.length ≤ LIM := q
    rw [if_pos q2, grd_ok _ q]; rfl
  · have q2 : ¬ z.length ≤ LIM := q
    rw [if_neg q2, grd_no _ q]; rfl
@[simp] theorem o_idxS0 (k : Nat) (z : Sy) (s : Sto) : idxO (.str (k :: z)) (.int 0) s = grd (z.length + 1 ≤ 16777216) (.ok (.str [k]) s) := by
  show (if (k :: z).length ≤ LIM then _ else no) s = _
  by_cases q : z.length + 1 ≤ 16777216
  · have q2 : (k :: z).length ≤ LIM := q
    rw [if_pos q2, grd_ok _ q]
    have : ixO (k :: z).length 0 = some 0 := by simp [ixO]
    rw [this]; rfl
  · have q2 : ¬ (k :: z).length ≤ LIM := q
    rw [if_neg q2, grd_no _ q]; rfl
/-- a number or None -/
def nD : Option Int → D
  | some z => .int z
  | none => .non
theorem any_non : ∀ vs : List (Option Int), ((vs.map nD).any fun a => pyEq a .non) = decide (none ∈ vs)
  | [] => rfl
  | some z :: vs => by
    rw [List.map_cons, List.any_cons, any_non vs]
    simp [nD, pyEq]
  | none :: vs => by
    rw [List.map_cons, List.any_cons, any_non vs]
    simp [nD, pyEq]
theorem flat_nD (vs : List (Option Int)) : (vs.map nD).all flatD = true := by
  rw [List.all_eq_true]
  intro d hd
  obtain ⟨v, _, rfl⟩ := List.mem_map.mp hd
  cases v <;> rfl
@[simp] theorem o_inNT (vs : List (Option Int)) (s : Sto) : inO .non (.tup (vs.map nD)) s = .ok (.bl (decide (none ∈ vs))) s := by
  show bd (itemsO (.tup (vs.map nD))) (inSeq false .non) s = _
  simp only [x_bd, o_itT, R.then_ok, inSeq, flat_nD, flatD, Bool.and_self, if_true, any_non]
  rfl
@[simp] theorem o_inNL (vs : List (Option Int)) (s : Sto) : inO .non (.lst (vs.map nD)) s = .ok (.bl (decide (none ∈ vs))) s := by
  show bd (itemsO (.lst (vs.map nD))) (inSeq false .non) s = _
  have e : itemsO (.lst (vs.map nD)) s = .ok (vs.map nD) s := rfl
  simp only [x_bd, e, R.then_ok, inSeq, flat_nD, flatD, Bool.and_self, if_true, any_non]
  rfl
@[simp] theorem x_revF (a : E) (e : En) (s : Sto) : revF a e s = R.then (a e s) fun x s => R.then (litO x s) revK := by
  simp only [revF, bdT]
@[simp] theorem o_revK (ds : List D) (s : Sto) : revK ds s = .ok ds.reverse s := (rfl)
@[simp] theorem x_repF (a b : E) (e : En) (s : Sto) : repF a b e s = R.then (a e s) fun x s => R.then (b e s) fun y s => R.then (lstQ x s) (repK y) := by
  simp only [repF, bdT]
@[simp] theorem o_repK (k : Int) (ds : List D) (s : Sto) : repK (.int k) ds s = grd (0 ≤ k ∧ k ≤ 1000 ∧ ds.length ≤ 1000) (.ok (List.replicate k.toNat ds).flatten s) := by
  show (if 0 ≤ k ∧ k ≤ 1000 ∧ ds.length ≤ 1000 then pu (List.replicate k.toNat ds).flatten else no) s = _
  by_cases h : 0 ≤ k ∧ k ≤ 1000 ∧ ds.length ≤ 1000
  · rw [if_pos h, grd_ok _ h]; rfl
  · rw [if_neg h, grd_no _ h]; rfl
def dcK : Option Ob → Sto → R (List (List Int × D))
  | some ⟨true, .dct kvs⟩, s => .ok kvs s
  | _, _ => .bad
@[simp] theorem dcK_some (kvs : List (List Int × D)) (s : Sto) : dcK (some ⟨true, .dct kvs⟩) s = .ok kvs s := (rfl)
def dqK : D → Sto → R (List (List Int × D))
  | .ref n, s => dcK s[n]? s
  | _, _ => .bad
@[simp] theorem dqK_ref (n : Nat) (s : Sto) : dqK (.ref n) s = dcK s[n]? s := (rfl)
theorem dicQ_eq (d : D) (s : Sto) : dicQ d s = dqK d s := by
  cases d <;> try rfl
  simp only [dicQ, dqK]
  rcases s[_]? with _ | ⟨_ | _, _ | _ | _⟩ <;> rfl
def kyK (y : D) (s : Sto) : R (List Int) := match keyOf y with
  | some k => .ok k s
  | none => .bad
theorem keyQ_eq (y : D) (s : Sto) : keyQ y s = kyK y s := by
  unfold keyQ kyK
  cases keyOf y <;> rfl
theorem kyK_ints {k : List Int} (h : k ≠ []) (s : Sto) : kyK (.tup (k.map .int)) s = .ok k s := by
  cases k with
  | nil => exact absurd rfl h
  | cons z r =>
    have : keyOf (.tup ((z :: r).map .int)) = some (z :: r) := by
      show intOf ((z :: r).map .int) = _
      exact ML.intOf_map (z :: r)
    unfold kyK
    rw [this]
def dgV (k : List Int) (kvs : List (List Int × D)) (s : Sto) : R D := match dval kvs k with
  | some v => .ok v s
  | none => .bad
theorem dgK_eq (k : List Int) (kvs : List (List Int × D)) (s : Sto) : dgK k kvs s = dgV k kvs s := by
  unfold dgK dgV
  cases dval kvs k <;> rfl
theorem dicQ_fun : dicQ = dqK := by funext d s; exact dicQ_eq d s
theorem keyQ_fun : keyQ = kyK := by funext d s; exact keyQ_eq d s
theorem dgK_fun : dgK = dgV := by funext k d s; exact dgK_eq k d s
@[simp] theorem x_dgetE (a b : E) (e : En) (s : Sto) : dgetE a b e s = R.then (a e s) fun x s => R.then (b e s) fun y s => R.then (kyK y s) fun k s => R.then (dqK x s) (dgV k) := by
  simp only [dgetE, dgetO, bdT, dicQ_fun, keyQ_fun, dgK_fun]
@[simp] theorem x_dgt2E (o a b : E) (e : En) (s : Sto) : dgt2E o a b e s = R.then (o e s) fun x s => R.then (dqK x s) fun _ s => R.then (a e s) fun y s => R.then (b e s) fun z s => R.then (kyK y s) fun k s => R.then (dqK x s) fun kvs s => .ok ((dval kvs k).getD z) s := by
  simp only [dgt2E, dg2O, bdT, dicQ_fun, keyQ_fun]; rfl
noncomputable def dpV (x : D) (k : List Int) (v : D) (kvs : List (List Int × D)) (s : Sto) : R D := match x with
  | .ref n => grd (kvs.length < 16777216) (.ok .non (s.set n ⟨true, .dct (dset kvs k v)⟩))
  | _ => .bad
@[simp] theorem dpV_ref (n : Nat) (k : List Int) (v : D) (kvs : List (List Int × D)) (s : Sto) : dpV (.ref n) k v kvs s = grd (kvs.length < 16777216) (.ok .non (s.set n ⟨true, .dct (dset kvs k v)⟩)) := (rfl)
theorem dputK_eq (x : D) (k : List Int) (v : D) (kvs : List (List Int × D)) (s : Sto) : dputK x k v kvs s = dpV x k v kvs s := by
  cases x <;> try rfl
  rw [dpV_ref, ← grd_dec]; rfl
theorem dputK_fun : dputK = dpV := by funext x k v kvs s; exact dputK_eq x k v kvs s
noncomputable def dpO (x y v : D) (s : Sto) : R D := R.then (kyK y s) fun k s => R.then (dqK x s) (dpV x k v)
@[simp] theorem dpO_def (x y v : D) (s : Sto) : dpO x y v s = R.then (kyK y s) fun k s => R.then (dqK x s) (dpV x k v) := (rfl)
theorem dputO_eq (x y v : D) (s : Sto) : dputO x y v s = dpO x y v s := by
  simp only [dputO, bdT, dicQ_fun, keyQ_fun, dputK_fun, dpO]
theorem dputO_fun : dputO = dpO := by funext x y v s; exact dputO_eq x y v s
@[simp] theorem x_dputS (o i v : E) (e : En) (s : Sto) : dputS o i v e s = R.go (v e s) e fun d s => R.go (o e s) e fun a s => R.go (i e s) e fun b s => R.go (dpO a b d s) e fun _ s => .nx e s := by
  simp only [dputS, dputO_fun, x_ev]; rfl
def dgO (x y : D) (s : Sto) : R D := R.then (kyK y s) fun k s => R.then (dqK x s) (dgV k)
@[simp] theorem dgO_def (x y : D) (s : Sto) : dgO x y s = R.then (kyK y s) fun k s => R.then (dqK x s) (dgV k) := (rfl)
theorem dgetO_eq (x y : D) (s : Sto) : dgetO x y s = dgO x y s := by
  simp only [dgetO, bdT, dicQ_fun, keyQ_fun, dgK_fun, dgO]
theorem dgetO_fun : dgetO = dgO := by funext x y s; exact dgetO_eq x y s
@[simp] theorem x_daugS (op : D → D → M D) (o i v : E) (e : En) (s : Sto) : daugS op o i v e s = R.go (o e s) e fun a s => R.go (i e s) e fun b s => R.go (dgO a b s) e fun u s => R.go (v e s) e fun d s => R.go (op u d s) e fun z s => R.go (dpO a b z s) e fun _ s => .nx e s := by
  simp only [daugS, dputO_fun, dgetO_fun, x_ev]; rfl
@[simp] theorem x_ndctE (e : En) (s : Sto) : ndctE e s = .ok (.ref s.length) (s ++ [⟨true, .dct []⟩]) := (rfl)
@[simp] theorem o_addI (i j : Int) (s : Sto) : addI (.int i) (.int j) s = .ok (.int (i + j)) s := (rfl)
@[simp] theorem o_subI (i j : Int) (s : Sto) : subI (.int i) (.int j) s = .ok (.int (i - j)) s := (rfl)
@[simp] theorem o_mulI (i j : Int) (s : Sto) : mulI (.int i) (.int j) s = grd (mulOk i j = true) (.ok (.int (i * j)) s) := by
  show (if mulOk i j = true then pu (D.int (i * j)) else no) s = _
  by_cases h : mulOk i j = true
  · rw [if_pos h, grd_ok _ h]; rfl
  · rw [if_neg h, grd_no _ h]; rfl
@[simp] theorem x_revS (a : E) (xs : List D) (e : En) (s : Sto) (s' : Sto) (h : a e s = .ok (.tup xs) s') : revS a e s = .ok (xs.reverse, fun _ => true) s' := by
  simp only [revS, bdT, h, R.then_ok]; rfl
def paK (i j : Nat) (xs : List D) (e : En) (s : Sto) : RS := match xs with
  | [x, y] => .nx ((e.set i (.va x)).set j (.va y)) s
  | _ => .bad
@[simp] theorem paK_two (i j : Nat) (x y : D) (e : En) (s : Sto) : paK i j [x, y] e s = .nx ((e.set i (.va x)).set j (.va y)) s := (rfl)
@[simp] theorem x_parS (i j : Nat) (a : Es) (e : En) (s : Sto) : parS i j a e s = R.go (a e s) e fun xs s => paK i j xs e s := by
  simp only [parS, x_ev]; rfl
@[simp] theorem x_rvmE (o : E) (e : En) (s : Sto) : rvmE o e s = R.then (o e s) fun d s => mutL (fun ds => some ds.reverse) d s := by simp only [rvmE, bdT]
@[simp] theorem x_cmp2F (src : Src) (tg : Tg) (t : T) (src1 : Src) (tg1 : Tg) (t1 : T) (elt : E) (vs vs1 : List Nat) (e : En) (s : Sto) : cmp2F src tg t src1 tg1 t1 elt vs vs1 e s = R.then (src e s) fun p s => R.then (cmp2L tg t src1 tg1 t1 elt vs1 p.2 (wipeE e vs) p.1 s) fun xs s => grd (p.2 s = true) (grd (xs.length ≤ 16777216) (.ok xs s)) := by
  simp only [cmp2F, x_bd]; congr; funext p s
  congr; funext xs s; by_cases h1 : p.2 s = true <;> by_cases h2 : xs.length ≤ LIM <;> (have h3 := h2; unfold LIM at h3; simp [h1, h2, h3, grd_ok, grd_no])
@[simp] theorem runF_pure {α β : Type} (g : α → Option β) : ∀ (l : List α) (s : Sto), runF (fun x s => .ok (g x) s) (fun _ => true) l s = .ok (l.filterMap g) s
  | [], _ => rfl
  | x :: l, s => by
    simp only [runF, if_true, R.then_ok, runF_pure g l, List.filterMap_cons]
    cases g x <;> rfl
@[simp] theorem o_addIT (x y : List D) (s : Sto) : addI (.tup x) (.tup y) s = grd (x.length + y.length ≤ 16777216) (.ok (.tup (x ++ y)) s) := by
  rw [← grd_dec]
  show (if x.length + y.length ≤ LIM then pu (D.tup (x ++ y)) else no) s = _
  by_cases h : x.length + y.length ≤ 16777216
  · rw [if_pos (show x.length + y.length ≤ LIM from h), if_pos h]; rfl
  · rw [if_neg (show ¬ x.length + y.length ≤ LIM from h), if_neg h]; rfl
theorem any_rows (r : List Int) (l : List (List Int)) : ((l.map ML.row).any fun z => pyEq z (.tup (r.map .int))) = decide (r ∈ l) := by
  induction l with
  | nil => rfl
  | cons x l ih =>
    rw [List.map_cons, List.any_cons, ih]
    simp only [ML.row, pyEq, pyEqs_int]
    by_cases q : x = r
    · simp [q]
    · have : ¬ r = x := fun h => q h.symm
      simp [q, this]
theorem any_rows2 (r : List Int) (l : List (List Int)) : (l.any fun x => pyEq (.tup (x.map .int)) (.tup (r.map .int))) = decide (r ∈ l) := by
  rw [← any_rows, List.any_map]; rfl
@[simp] theorem o_inD (r : List Int) (l : List (List Int)) (s : Sto) : inDO (.tup (r.map .int)) (.lst (l.map ML.row)) s = .ok (.bl (decide (r ∈ l))) s := by
  simp [inDO, anyD, deepO, noRef, noRefs_int, noRefs_row, shp, shps_int, shps_row, any_rows2]
@[simp] theorem o_notinD (r : List Int) (l : List (List Int)) (s : Sto) : notinDO (.tup (r.map .int)) (.lst (l.map ML.row)) s = .ok (.bl (!decide (r ∈ l))) s := by
  simp [notinDO, anyD, deepO, noRef, noRefs_int, noRefs_row, shp, shps_int, shps_row, any_rows2]
def lxK (a : E) (e : En) : D → Sto → R D
  | .lst ys, s => R.then (a e s) (lixO (.lst ys))
  | _, _ => .bad
@[simp] theorem lxK_lst (a : E) (e : En) (ys : List D) (s : Sto) : lxK a e (.lst ys) s = R.then (a e s) (lixO (.lst ys)) := (rfl)
@[simp] theorem x_lixE (o a : E) (e : En) (s : Sto) : lixE o a e s = R.then (o e s) (lxK a e) := by
  simp only [lixE, bdT]; congr; funext d s; cases d <;> rfl
def srK : D → Sto → R (List D)
  | .tup _, _ => .bad
  | d, s => R.then (itemsO d s) srtRK
@[simp] theorem srK_lst (ds : List D) (s : Sto) : srK (.lst ds) s = srtRK ds s := (rfl)
@[simp] theorem x_srtRF (a : E) (e : En) (s : Sto) : srtRF a e s = R.then (a e s) srK := by
  simp only [srtRF, bdT]; congr; funext d s; cases d <;> rfl
@[simp] theorem o_litL (xs : List D) (s : Sto) : litO (.lst xs) s = .ok xs s := (rfl)
@[simp] theorem o_litR (n : Nat) (s : Sto) : litO (.ref n) s = itK s[n]? s := by rw [show litO (.ref n) = itemsO (.ref n) from rfl, o_itR]
@[simp] theorem x_extE (o a : E) (e : En) (s : Sto) : extE o a e s = R.then (o e s) fun d s => R.then (lstQ d s) fun _ s => R.then (a e s) fun y s => R.then (litO y s) (extO d) := by simp only [extE, bdT]
noncomputable def exK (n : Nat) (ys : List D) : Option Ob → Sto → R D
  | some ⟨true, .lst xs⟩, s => grd (xs.length + ys.length ≤ 16777216) (.ok .non (s.set n ⟨true, .lst (xs ++ ys)⟩))
  | _, _ => .bad
@[simp] theorem exK_some (n : Nat) (ys xs : List D) (s : Sto) : exK n ys (some ⟨true, .lst xs⟩) s = grd (xs.length + ys.length ≤ 16777216) (.ok .non (s.set n ⟨true, .lst (xs ++ ys)⟩)) := (rfl)
@[simp] theorem o_ext (n : Nat) (ys : List D) (s : Sto) : extO (.ref n) ys s = exK n ys s[n]? s := by
  simp only [extO, mutL, exK]
  rcases s[n]? with _ | ⟨_ | _, xs | _ | _⟩ <;> try rfl
  by_cases h : xs.length + ys.length ≤ LIM
  · have h2 : xs.length + ys.length ≤ 16777216 := h
    have : (xs ++ ys).length ≤ LIM := by rw [List.length_append]; exact h
    simp only [if_pos h, if_pos this, grd_ok _ h2]
  · have h2 : ¬ xs.length + ys.length ≤ 16777216 := h
    simp only [if_neg h, grd_no _ h2]
@[simp] theorem x_pop0E (o : E) (e : En) (s : Sto) : pop0E o e s = R.then (o e s) fun d s => R.then (lstQ d s) fun _ s => pop0O d s := by simp only [pop0E, bdT]
@[simp] theorem x_clrE (o : E) (e : En) (s : Sto) : clrE o e s = R.then (o e s) fun d s => mutL (fun _ => some []) d s := by simp only [clrE, bdT]
@[simp] theorem x_laugS (op : D → D → M D) (o i v : E) (e : En) (s : Sto) : laugS op o i v e s = R.go (o e s) e fun a s => R.go (i e s) e fun b s => R.go (augL a b s) e fun u s => R.go (v e s) e fun d s => R.go (op u d s) e fun z s => R.go (putO a b z s) e fun _ s => .nx e s := by
  simp only [laugS, x_ev]; rfl
def rDK (d : D) : D → Sto → R (List D × (Sto → Bool)) := fun d' s => match d, d' with
  | .int lo, .int hi => if -B62 ≤ lo ∧ lo < B62 ∧ -B62 ≤ hi ∧ hi < B62 then .ok (dRow lo (lo - hi).toNat, fun _ => true) s else .bad
  | _, _ => .bad
@[simp] theorem rDK_int (l n : Int) (s : Sto) : rDK (.int l) (.int n) s = grd (-4611686018427387904 ≤ l ∧ l < 4611686018427387904 ∧ -4611686018427387904 ≤ n ∧ n < 4611686018427387904) (.ok ((List.range (l - n).toNat).map fun i => .int (l - (i : Nat)), fun _ => true) s) := by
  unfold rDK B62; rw [← grd_dec]; rfl
@[simp] theorem x_rngD (a b : E) (e : En) (s : Sto) : rngD a b e s = R.then (a e s) fun d s => R.then (b e s) (rDK d) := by
  simp only [rngD, bdT]; congr; funext d s; congr; funext d' s
  unfold rDK
  cases d <;> cases d' <;> try rfl
  simp only; split <;> rfl
@[simp] theorem o_isntB (a b : Bool) (s : Sto) : isntBO (.bl a) (.bl b) s = .ok (.bl (!decide (a = b))) s := (rfl)
end MP
namespace PL
open MP (Sy D Cn Ob Sto R En bd pu no rz nx LIM)
def m__law_feed : List D → MP.M D := MP.fn 1 1
    (MP.retS (MP.newE (MP.lstF (MP.consA (MP.frzE (MP.listF (MP.frzE (MP.slcF (MP.vE 0) none (some (MP.cE (.int 63))))))) (MP.consA (MP.cE (.int 0)) (MP.consA (MP.cE (.int 0)) (MP.consA (MP.cE (.int 9132)) (MP.consA (MP.cE (.int 0)) MP.nilA))))))))
def m__law_draw : List D → MP.M D := MP.fn 2 5
    (MP.seq (MP.ifS (MP.andT (MP.tb (MP.binE MP.ltO (MP.binE MP.idxO (MP.vE 0) (MP.cE (.int 2))) (MP.vE 1))) (MP.tb (MP.binE MP.ltO (MP.binE MP.idxO (MP.vE 0) (MP.cE (.int 1))) (MP.biE MP.lenO (MP.consA (MP.binE MP.idxO (MP.vE 0) (MP.cE (.int 0))) MP.nilA))))) (MP.seq (MP.setS 2 (MP.binE MP.idxO (MP.binE MP.idxO (MP.vE 0) (MP.cE (.int 0))) (MP.binE MP.idxO (MP.vE 0) (MP.cE (.int 1)))))
    (MP.seq (MP.putS (MP.vE 0) (MP.cE (.int 1)) (MP.binE MP.addO (MP.binE MP.idxO (MP.vE 0) (MP.cE (.int 1))) (MP.cE (.int 1))))
    (MP.seq (MP.putS (MP.vE 0) (MP.cE (.int 2)) (MP.cE (.int 0)))
    (MP.ifS (MP.tb (MP.binE MP.geO (MP.vE 2) (MP.binE MP.powO (MP.cE (.int 10)) (MP.cE (.int 18))))) (MP.putS (MP.vE 0) (MP.cE (.int 2)) (MP.vE 2)) (MP.putS (MP.vE 0) (MP.cE (.int 3)) (MP.binE MP.modO (MP.binE MP.addO (MP.binE MP.addO (MP.binE MP.mulO (MP.binE MP.idxO (MP.vE 0) (MP.cE (.int 3))) (MP.cE (.int 48271))) (MP.binE MP.mulO (MP.binE MP.modO (MP.vE 2) (MP.cE (.int 1000000007))) (MP.cE (.int 69621)))) (MP.cE (.int 11))) (MP.cE (.int 2147483647)))))))) MP.nxS)
    (MP.seq (MP.ifS (MP.tb (MP.binE MP.geO (MP.binE MP.idxO (MP.vE 0) (MP.cE (.int 2))) (MP.vE 1))) (MP.seq (MP.setS 3 (MP.binE MP.modO (MP.binE MP.idxO (MP.vE 0) (MP.cE (.int 2))) (MP.vE 1)))
    (MP.seq (MP.putS (MP.vE 0) (MP.cE (.int 2)) (MP.binE MP.fdivO (MP.binE MP.idxO (MP.vE 0) (MP.cE (.int 2))) (MP.vE 1)))
    (MP.retS (MP.vE 3)))) MP.nxS)
    (MP.seq (MP.putS (MP.vE 0) (MP.cE (.int 4)) (MP.binE MP.addO (MP.binE MP.idxO (MP.vE 0) (MP.cE (.int 4))) (MP.cE (.int 1))))
    (MP.seq (MP.setS 4 (MP.binE MP.idxO (MP.vE 0) (MP.cE (.int 3))))
    (MP.seq (MP.setS 4 (MP.binE MP.addO (MP.binE MP.addO (MP.binE MP.addO (MP.binE MP.mulO (MP.binE MP.modO (MP.binE MP.mulO (MP.vE 4) (MP.vE 4)) (MP.cE (.int 2147483587))) (MP.cE (.int 16807))) (MP.binE MP.mulO (MP.vE 4) (MP.cE (.int 48271)))) (MP.binE MP.mulO (MP.cE (.int 97)) (MP.binE MP.idxO (MP.vE 0) (MP.cE (.int 4))))) (MP.cE (.int 12345))))
    (MP.seq (MP.putS (MP.vE 0) (MP.cE (.int 3)) (MP.binE MP.modO (MP.vE 4) (MP.cE (.int 2147483647))))
    (MP.retS (MP.binE MP.modO (MP.binE MP.addO (MP.binE MP.fdivO (MP.binE MP.idxO (MP.vE 0) (MP.cE (.int 3))) (MP.cE (.int 64))) (MP.binE MP.mulO (MP.binE MP.modO (MP.binE MP.idxO (MP.vE 0) (MP.cE (.int 3))) (MP.cE (.int 4093))) (MP.cE (.int 31)))) (MP.vE 1)))))))))
def m__law_pick : List D → MP.M D := MP.fn 2 2
    (MP.retS (MP.binE MP.idxO (MP.vE 1) (MP.biE PL.m__law_draw (MP.consA (MP.vE 0) (MP.consA (MP.biE MP.lenO (MP.consA (MP.vE 1) MP.nilA)) MP.nilA)))))
def m__law_hold_c1 : MP.Es := (MP.cmpF (MP.rng1 (MP.vE 1)) (.nm 4) MP.yes (MP.ifE (MP.tb (MP.binE MP.gtO (MP.biE PL.m__law_draw (MP.consA (MP.vE 0) (MP.consA (MP.cE (.int 3)) MP.nilA))) (MP.cE (.int 0)))) (MP.biE PL.m__law_draw (MP.consA (MP.vE 0) (MP.consA (MP.binE MP.addO (MP.vE 2) (MP.cE (.int 1))) MP.nilA))) (MP.cE (.int 0))) [4])
def m__law_hold : List D → MP.M D := MP.fn 3 5
    (MP.seq (MP.setS 3 (MP.newE m__law_hold_c1))
    (MP.seq (MP.ifS (MP.tb (MP.binE MP.eqO (MP.biE MP.sumO (MP.consA (MP.vE 3) MP.nilA)) (MP.cE (.int 0)))) (MP.putS (MP.vE 3) (MP.biE PL.m__law_draw (MP.consA (MP.vE 0) (MP.consA (MP.vE 1) MP.nilA))) (MP.binE MP.addO (MP.cE (.int 1)) (MP.biE PL.m__law_draw (MP.consA (MP.vE 0) (MP.consA (MP.vE 2) MP.nilA))))) MP.nxS)
    (MP.retS (MP.biE MP.tupleO (MP.consA (MP.vE 3) MP.nilA)))))
def m__law_lot_c1 : MP.Es := (MP.cmpF (MP.rng1 (MP.binE MP.addO (MP.cE (.int 1)) (MP.biE PL.m__law_draw (MP.consA (MP.vE 0) (MP.consA (MP.vE 2) MP.nilA))))) (.nm 4) MP.yes (MP.biE PL.m__law_hold (MP.consA (MP.vE 0) (MP.consA (MP.vE 1) (MP.consA (MP.vE 3) MP.nilA)))) [4])
def m__law_lot : List D → MP.M D := MP.fn 4 5
    (MP.retS (MP.biE MP.tupleO (MP.consA (MP.frzE m__law_lot_c1) MP.nilA)))
def m__law_any_lot : List D → MP.M D := MP.fn 1 1
    (MP.retS (MP.biE PL.m__law_lot (MP.consA (MP.vE 0) (MP.consA (MP.binE MP.addO (MP.cE (.int 1)) (MP.biE PL.m__law_draw (MP.consA (MP.vE 0) (MP.consA (MP.cE (.int 3)) MP.nilA)))) (MP.consA (MP.cE (.int 5)) (MP.consA (MP.biE PL.m__law_pick (MP.consA (MP.vE 0) (MP.consA (MP.frzE (MP.lstF (MP.consA (MP.cE (.int 6)) (MP.consA (MP.cE (.int 3)) (MP.consA (MP.cE (.int 2)) (MP.consA (MP.cE (.int 1)) MP.nilA)))))) MP.nilA))) MP.nilA))))))
def m__law_same : Nat → List D → MP.M D
  | 0 => MP.fn 2 4 MP.noS
  | n + 1 => MP.fn 2 4 (MP.seq (MP.ifS (MP.tb (MP.unE MP.isnO (MP.vE 1))) (MP.retS (MP.unE MP.isnO (MP.vE 0))) MP.nxS)
    (MP.seq (MP.ifS (MP.tst (MP.biE (MP.isiO .bool) (MP.consA (MP.vE 1) MP.nilA))) (MP.retS (MP.andE (MP.biE (MP.isiO .bool) (MP.consA (MP.vE 0) MP.nilA)) (MP.binE MP.eqO (MP.vE 0) (MP.vE 1)))) MP.nxS)
    (MP.seq (MP.ifS (MP.tst (MP.biE (MP.isiO .int) (MP.consA (MP.vE 1) MP.nilA))) (MP.retS (MP.andE (MP.biE (MP.isiO .int) (MP.consA (MP.vE 0) MP.nilA)) (MP.andE (MP.notE (MP.biE (MP.isiO .bool) (MP.consA (MP.vE 0) MP.nilA))) (MP.binE MP.eqO (MP.vE 0) (MP.vE 1))))) MP.nxS)
    (MP.seq (MP.ifS (MP.tst (MP.biE (MP.isiO .str) (MP.consA (MP.vE 1) MP.nilA))) (MP.retS (MP.andE (MP.biE (MP.isiO .str) (MP.consA (MP.vE 0) MP.nilA)) (MP.binE MP.eqO (MP.vE 0) (MP.vE 1)))) MP.nxS)
    (MP.seq (MP.ifS (MP.tst (MP.biE (MP.isiO .dict) (MP.consA (MP.vE 1) MP.nilA))) MP.noS MP.nxS)
    (MP.seq (MP.ifS (MP.orT (MP.tb (MP.binE MP.neO (MP.biE (MP.isiO .tuple) (MP.consA (MP.vE 1) MP.nilA)) (MP.biE (MP.isiO .tuple) (MP.consA (MP.vE 0) MP.nilA)))) (MP.tb (MP.binE MP.neO (MP.biE (MP.isiO .list) (MP.consA (MP.vE 1) MP.nilA)) (MP.biE (MP.isiO .list) (MP.consA (MP.vE 0) MP.nilA))))) (MP.retS (MP.cE (.bl false))) MP.nxS)
    (MP.seq (MP.ifS (MP.tb (MP.binE MP.neO (MP.biE MP.lenO (MP.consA (MP.vE 0) MP.nilA)) (MP.biE MP.lenO (MP.consA (MP.vE 1) MP.nilA)))) (MP.retS (MP.cE (.bl false))) MP.nxS)
    (MP.retS (MP.biE MP.allO (MP.consA (MP.frzE (MP.cmpF (MP.rng1 (MP.biE MP.lenO (MP.consA (MP.vE 1) MP.nilA))) (.nm 3) MP.yes (MP.biE (m__law_same n) (MP.consA (MP.binE MP.idxO (MP.vE 0) (MP.vE 3)) (MP.consA (MP.binE MP.idxO (MP.vE 1) (MP.vE 3)) MP.nilA))) [3])) MP.nilA))))))))))
def m_is_number : List D → MP.M D := MP.fn 3 3
    (MP.retS (MP.andE (MP.biE (MP.isiO .int) (MP.consA (MP.vE 0) MP.nilA)) (MP.andE (MP.notE (MP.biE (MP.isiO .bool) (MP.consA (MP.vE 0) MP.nilA))) (MP.chE MP.leO MP.leO (MP.vE 1) (MP.vE 0) (MP.vE 2)))))
def m_is_hold_c1 : MP.Es := (MP.cmpF (MP.seqS (MP.vE 0)) (.nm 2) MP.yes (MP.biE PL.m_is_number (MP.consA (MP.vE 2) (MP.consA (MP.cE (.int 0)) (MP.consA (MP.cE (.int 6)) MP.nilA)))) [2])
def m_is_hold : List D → MP.M D := MP.fn 2 3
    (MP.seq (MP.ifS (MP.orT (MP.tb (MP.binE MP.neO (MP.biE MP.lenO (MP.consA (MP.vE 0) MP.nilA)) (MP.vE 1))) (MP.notT (MP.tst (MP.biE MP.allO (MP.consA (MP.frzE m_is_hold_c1) MP.nilA))))) (MP.retS (MP.cE (.bl false))) MP.nxS)
    (MP.retS (MP.binE MP.gtO (MP.biE MP.sumO (MP.consA (MP.vE 0) MP.nilA)) (MP.cE (.int 0)))))
def m_look_lot_b1 : MP.St := (MP.ifS (MP.notT (MP.tst (MP.biE PL.m_is_hold (MP.consA (MP.vE 2) (MP.consA (MP.biE MP.lenO (MP.consA (MP.binE MP.idxO (MP.vE 0) (MP.cE (.int 0))) MP.nilA)) MP.nilA))))) (MP.raiS 0 [[107, 105, 110, 100], [119, 111, 114, 100]] (MP.consA (MP.vE 1) (MP.consA (MP.cE (.str [98, 97, 100, 32, 108, 111, 116])) MP.nilA))) MP.nxS)
def m_look_lot : List D → MP.M D := MP.fn 1 3
    (MP.seq (MP.ifS (MP.orT (MP.notT (MP.tb (MP.chE MP.leO MP.leO (MP.cE (.int 1)) (MP.biE MP.lenO (MP.consA (MP.vE 0) MP.nilA)) (MP.cE (.int 5))))) (MP.notT (MP.tb (MP.chE MP.leO MP.leO (MP.cE (.int 1)) (MP.biE MP.lenO (MP.consA (MP.binE MP.idxO (MP.vE 0) (MP.cE (.int 0))) MP.nilA)) (MP.cE (.int 3)))))) (MP.raiS 0 [[107, 105, 110, 100], [119, 111, 114, 100]] (MP.consA (MP.unE MP.negO (MP.cE (.int 1))) (MP.consA (MP.cE (.str [98, 97, 100, 32, 108, 111, 116])) MP.nilA))) MP.nxS)
    (MP.forS (MP.enuS (MP.vE 0)) (.tp [1, 2]) m_look_lot_b1))
def m_plus_c1 : MP.Es := (MP.cmpF (MP.zipS (MP.vE 0) (MP.vE 1)) (.tp [2, 3]) MP.yes (MP.binE MP.addO (MP.vE 2) (MP.vE 3)) [2, 3])
def m_plus : List D → MP.M D := MP.fn 2 4
    (MP.retS (MP.biE MP.tupleO (MP.consA (MP.frzE m_plus_c1) MP.nilA)))
def m_times_c1 : MP.Es := (MP.cmpF (MP.seqS (MP.vE 0)) (.nm 2) MP.yes (MP.binE MP.mulO (MP.vE 2) (MP.vE 1)) [2])
def m_times : List D → MP.M D := MP.fn 2 3
    (MP.retS (MP.biE MP.tupleO (MP.consA (MP.frzE m_times_c1) MP.nilA)))
def m_dot_c1 : MP.Es := (MP.cmpF (MP.zipS (MP.vE 0) (MP.vE 1)) (.tp [2, 3]) MP.yes (MP.binE MP.mulO (MP.vE 2) (MP.vE 3)) [2, 3])
def m_dot : List D → MP.M D := MP.fn 2 4
    (MP.retS (MP.biE MP.sumO (MP.consA (MP.frzE m_dot_c1) MP.nilA)))
def m_within_c1 : MP.Es := (MP.cmpF (MP.zipS (MP.vE 0) (MP.vE 1)) (.tp [2, 3]) MP.yes (MP.binE MP.leO (MP.vE 2) (MP.vE 3)) [2, 3])
def m_within : List D → MP.M D := MP.fn 2 4
    (MP.retS (MP.biE MP.allO (MP.consA (MP.frzE m_within_c1) MP.nilA)))
def m_row_text_c1 : MP.Es := (MP.cmpF (MP.seqS (MP.vE 0)) (.nm 1) MP.yes (MP.biE MP.strO (MP.consA (MP.vE 1) MP.nilA)) [1])
def m_row_text : List D → MP.M D := MP.fn 1 2
    (MP.retS (MP.joinE (MP.cE (.str [44])) (MP.frzE m_row_text_c1)))
def m_is_figures_c1 : MP.Es := (MP.cmpF (MP.strS (MP.vE 0)) (.nm 1) MP.yes (MP.binE MP.inO (MP.vE 1) (MP.cE (.str [48, 49, 50, 51, 52, 53, 54, 55, 56, 57]))) [1])
def m_is_figures : List D → MP.M D := MP.fn 1 2
    (MP.seq (MP.ifS (MP.orT (MP.notT (MP.tb (MP.chE MP.leO MP.leO (MP.cE (.int 1)) (MP.biE MP.lenO (MP.consA (MP.vE 0) MP.nilA)) (MP.cE (.int 30))))) (MP.notT (MP.tst (MP.biE MP.allO (MP.consA (MP.frzE m_is_figures_c1) MP.nilA))))) (MP.retS (MP.cE (.bl false))) MP.nxS)
    (MP.retS (MP.orE (MP.binE MP.eqO (MP.biE MP.lenO (MP.consA (MP.vE 0) MP.nilA)) (MP.cE (.int 1))) (MP.binE MP.neO (MP.binE MP.idxO (MP.vE 0) (MP.cE (.int 0))) (MP.cE (.str [48]))))))
def m_number_in : List D → MP.M D := MP.fn 1 2
    (MP.seq (MP.setS 1 (MP.rmpE (MP.vE 0) (MP.cE (.str [45]))))
    (MP.seq (MP.ifS (MP.orT (MP.notT (MP.tst (MP.biE PL.m_is_figures (MP.consA (MP.vE 1) MP.nilA)))) (MP.tb (MP.binE MP.eqO (MP.vE 0) (MP.cE (.str [45, 48]))))) (MP.retS (MP.cE .non)) MP.nxS)
    (MP.retS (MP.ifE (MP.tb (MP.binE MP.eqO (MP.vE 1) (MP.vE 0))) (MP.biE MP.intxO (MP.consA (MP.vE 1) MP.nilA)) (MP.binE MP.subO (MP.cE (.int 0)) (MP.biE MP.intxO (MP.consA (MP.vE 1) MP.nilA)))))))
def m_read_row_c1 : MP.Es := (MP.cmpF (MP.seqS (MP.frzE (MP.splF (MP.vE 0) (MP.cE (.str [44]))))) (.nm 2) MP.yes (MP.biE PL.m_number_in (MP.consA (MP.vE 2) MP.nilA)) [2])
def m_read_row : List D → MP.M D := MP.fn 1 3
    (MP.seq (MP.setS 1 (MP.biE MP.tupleO (MP.consA (MP.frzE m_read_row_c1) MP.nilA)))
    (MP.seq (MP.ifS (MP.tb (MP.binE MP.inO (MP.cE .non) (MP.vE 1))) (MP.raiS 6 [[97, 116], [119, 111, 114, 100]] (MP.consA (MP.cE (.int 0)) (MP.consA (MP.cE (.str [98, 97, 100, 32, 116, 101, 120, 116])) MP.nilA))) MP.nxS)
    (MP.retS (MP.vE 1))))
def m__law_number_in_c1 : MP.Es := (MP.cmpF (MP.strS (MP.vE 1)) (.nm 2) MP.yes (MP.binE MP.inO (MP.vE 2) (MP.cE (.str [48, 49, 50, 51, 52, 53, 54, 55, 56, 57]))) [2])
def m__law_number_in : List D → MP.M D := MP.fn 1 3
    (MP.seq (MP.setS 1 (MP.ifE (MP.tb (MP.binE MP.eqO (MP.slcE (MP.vE 0) none (some (MP.cE (.int 1)))) (MP.cE (.str [45])))) (MP.slcE (MP.vE 0) (some (MP.cE (.int 1))) none) (MP.vE 0)))
    (MP.seq (MP.ifS (MP.orT (MP.notT (MP.tb (MP.chE MP.leO MP.leO (MP.cE (.int 1)) (MP.biE MP.lenO (MP.consA (MP.vE 1) MP.nilA)) (MP.cE (.int 30))))) (MP.notT (MP.tst (MP.biE MP.allO (MP.consA (MP.frzE m__law_number_in_c1) MP.nilA))))) (MP.retS (MP.cE .non)) MP.nxS)
    (MP.seq (MP.ifS (MP.orT (MP.andT (MP.tb (MP.binE MP.gtO (MP.biE MP.lenO (MP.consA (MP.vE 1) MP.nilA)) (MP.cE (.int 1)))) (MP.tb (MP.binE MP.eqO (MP.binE MP.idxO (MP.vE 1) (MP.cE (.int 0))) (MP.cE (.str [48]))))) (MP.tb (MP.binE MP.eqO (MP.vE 0) (MP.cE (.str [45, 48]))))) (MP.retS (MP.cE .non)) MP.nxS)
    (MP.retS (MP.biE MP.intxO (MP.consA (MP.vE 0) MP.nilA))))))
def m_lot_text_c1 : MP.Es := (MP.cmpF (MP.seqS (MP.vE 0)) (.nm 1) MP.yes (MP.biE PL.m_row_text (MP.consA (MP.vE 1) MP.nilA)) [1])
def m_lot_text : List D → MP.M D := MP.fn 1 2
    (MP.seq (MP.exprS (MP.biE PL.m_look_lot (MP.consA (MP.vE 0) MP.nilA)))
    (MP.retS (MP.joinE (MP.cE (.str [32])) (MP.frzE m_lot_text_c1))))
def m_read_lot_c1 : MP.Es := (MP.cmpF (MP.seqS (MP.frzE (MP.splF (MP.vE 0) (MP.cE (.str [32]))))) (.nm 2) MP.yes (MP.biE PL.m_read_row (MP.consA (MP.vE 2) MP.nilA)) [2])
def m_read_lot : List D → MP.M D := MP.fn 1 3
    (MP.seq (MP.setS 1 (MP.biE MP.tupleO (MP.consA (MP.frzE m_read_lot_c1) MP.nilA)))
    (MP.seq (MP.exprS (MP.biE PL.m_look_lot (MP.consA (MP.vE 1) MP.nilA)))
    (MP.retS (MP.vE 1))))
def m_minus_c1 : MP.Es := (MP.cmpF (MP.zipS (MP.vE 0) (MP.vE 1)) (.tp [2, 3]) MP.yes (MP.binE MP.subO (MP.vE 2) (MP.vE 3)) [2, 3])
def m_minus : List D → MP.M D := MP.fn 2 4
    (MP.retS (MP.biE MP.tupleO (MP.consA (MP.frzE m_minus_c1) MP.nilA)))
end PL
namespace MP
def fstO : D → M D
  | .int i => if i.natAbs.log2 < 1920 then pu (.str (numZ i)) else no
  | _ => no
end MP
namespace MS
open PySem PySem.Spec PyProof.Rows L2
open MP (Sy D Cn Ob Sto R En bd pu no rz nx LIM)
end MS
namespace MX
open MP ML
@[simp] theorem x_fst (i : Int) (S : Sto) (h : i.natAbs.log2 < 1920) : MP.fstO (.int i) S = .ok (.str (numZ i)) S := by
  show (if i.natAbs.log2 < 1920 then pu (D.str (numZ i)) else no) S = _
  rw [if_pos h]
  rfl
end MX
namespace MP
def ltRO : D → D → M D
  | .tup xs, .tup ys => match allZ xs, allZ ys with
    | some a, some b => pu (.bl (decide (a < b)))
    | _, _ => no
  | _, _ => no
end MP
namespace MS
open PySem PySem.Spec PyProof.Rows L2
open MP (Sy D Cn Ob Sto R En bd pu no rz nx LIM)
end MS
namespace ML
open MP
@[simp] theorem o_ltR (a b : List Int) (s : Sto) : ltRO (.tup (a.map .int)) (.tup (b.map .int)) s = .ok (.bl (decide (a < b))) s := by
  simp [ltRO, allZ_map]
end ML
namespace MP
def tupC : D → Bool
  | .tup (_ :: _) => true
  | _ => false
end MP
namespace MS
open PySem PySem.Spec PyProof.Rows L2
open MP (Sy D Cn Ob Sto R En bd pu no rz nx LIM)
end MS
namespace MS
open PySem PySem.Spec PyProof.Rows L2
end MS
namespace MP
end MP
namespace MS
open PySem PySem.Spec PyProof.Rows L2
open MP (Sy D Cn Ob Sto R En bd pu no rz nx LIM)
theorem nn (N : Nat) {i j : Nat} (h : i ≠ j) : (N + i : Nat) ≠ N + j := by omega
end MS
namespace MP
end MP
namespace MS
open PySem PySem.Spec PyProof.Rows L2
open MP (Sy D Cn Ob Sto R En bd pu no rz nx LIM)
end MS
namespace MP
def codeR : List Int → Int
  | [] => 0
  | x :: r => x * 1000 ^ r.length + codeR r
def bdR (k : List Int) : Bool := k.all fun x => decide (0 ≤ x ∧ x < 1000)
/-- rows of d numbers below 1000 -/
def rowZ (d : Nat) : D → Option (List Int)
  | .tup xs => match allZ xs with
    | some k => if decide (k.length = d) && bdR k then some k else none
    | none => none
  | _ => none
def rowsZ (d : Nat) : List D → Option (List (List Int))
  | [] => some []
  | x :: r => match rowZ d x, rowsZ d r with
    | some k, some ks => some (k :: ks)
    | _, _ => none
def addR (l : List (List Int)) (k : List Int) : List (List Int) := if k ∈ l then l else l ++ [k]
def sdR (rows : List (List Int)) : List (List Int) := (rows.foldl addR []).mergeSort fun a b => decide (codeR a ≤ codeR b)
def rowD (k : List Int) : D := .tup (k.map .int)
/-- the length of the first -/
def len1R : List D → Nat
  | .tup xs :: _ => xs.length
  | _ => 1
def sdK (ds : List D) : M (List D) := match rowsZ (len1R ds) ds with
  | some rows => if rows.length < 64 ∧ 1 ≤ len1R ds then pu ((sdR rows).map rowD) else no
  | none => no
end MP
namespace MS
open PySem PySem.Spec PyProof.Rows L2
open MP (Sy D Cn Ob Sto R En bd pu no rz nx LIM)
theorem setTO_code {P : Program} {w : World} {a c : Addr} {L : List (Addr × List Int)} {q : Str} : SetTO P w a L ≠ LamX.CodeO c q := fun e => by
  unfold SetTO LamX.CodeO at e
  have e1 := HO.ext.inj e
  have h1 := congrFun e1 (⟨Array.replicate (c + 1) { cls := .none, dict := none, data := .fields #[.none, .str q 0] }, {}⟩ : Heap)
  have h2 : ∀ b o, Heap.get? ⟨Array.replicate (c + 1) { cls := .none, dict := none, data := .fields #[.none, .str q 0] }, {}⟩ b = some o → o.data = .fields #[.none, .str q 0] := fun b o h => by
    unfold Heap.get? at h
    dsimp only at h
    rw [Array.getElem?_replicate] at h
    split at h
    · rename_i q1
      split at q1
      · cases q1
      · cases q1
    · split at h
      · cases h; rfl
      · cases h
  have h3 : SetT0 P w ⟨Array.replicate (c + 1) { cls := .none, dict := none, data := .fields #[.none, .str q 0] }, {}⟩ a L := by
    rw [h1]
    refine ⟨{ cls := .none, dict := none, data := .fields #[.none, .str q 0] }, #[.none, .str q 0], 0, ?_, rfl, rfl⟩
    unfold Heap.get?
    dsimp only
    rw [Array.getElem?_replicate, if_pos (Nat.lt_succ_self c)]
  obtain ⟨es, ep, t, ⟨o, ho, _, hd⟩, _⟩ := h3.ex
  rw [h2 a o ho] at hd
  cases hd
section
variable {c : Ct} {H H' H1 : Hp} {J J' J1 : Jm} {S S' S1 : Sto}
mutual
theorem RV.monoP (h1 : ∀ a xs, TupAt c H J a xs → TupAt c H' J' a xs) (h2 : ∀ a xs, LstAt c H J a xs → LstAt c H' J' a xs) (e : Ext J J') : ∀ (d : D) (v : V), RV c H J d v → RV c H' J' d v
  | .non, _, h => h
  | .bl _, _, h => h
  | .int _, _, h => h
  | .str _, _, h => h
  | .tup ds, _, h => by
    obtain ⟨a, xs, e1, g1, g2⟩ := h
    exact ⟨a, xs, e1, h1 a xs g1, RVs.monoP h1 h2 e ds xs g2⟩
  | .lst ds, _, h => by
    obtain ⟨a, xs, e1, g1, g2⟩ := h
    exact ⟨a, xs, e1, h2 a xs g1, RVs.monoP h1 h2 e ds xs g2⟩
  | .dct _ _, _, h => h
  | .ref n, _, h => by
    obtain ⟨g1, g2⟩ := h
    exact ⟨Nat.lt_of_lt_of_le g1 e.1, by rw [g2, e.2 n g1]⟩
theorem RVs.monoP (h1 : ∀ a xs, TupAt c H J a xs → TupAt c H' J' a xs) (h2 : ∀ a xs, LstAt c H J a xs → LstAt c H' J' a xs) (e : Ext J J') : ∀ (ds : List D) (vs : List V), RVs c H J ds vs → RVs c H' J' ds vs
  | [], _, h => h
  | d :: r, _, h => by
    obtain ⟨v, t, e1, g1, g2⟩ := h
    exact ⟨v, t, e1, RV.monoP h1 h2 e d v g1, RVs.monoP h1 h2 e r t g2⟩
end
/-- the set in the making, changed -/
theorem Aft.set {P : Program} {w : World} {D0 : Addr} {L L' : List (Addr × List Int)} (a : Aft c H J H' J' S') (hp : H D0 = none) (r : RS c H J S) (hD : H' D0 = some (SetTO P w D0 L)) (nm : ¬ J'.m D0) :
    Aft c H J (upd H' D0 (SetTO P w D0 L')) J' S' ∧ ∀ b xs, TupAt c H' J' b xs → TupAt c (upd H' D0 (SetTO P w D0 L')) J' b xs := by
  have nt : ∀ b u, H' b = some u → (∀ φ, u ≠ .ext φ) → b ≠ D0 := fun b u e n z => by
    rw [z, hD] at e
    exact n _ (Option.some.inj e).symm
  have kt : ∀ b xs, TupAt c H' J' b xs → TupAt c (upd H' D0 (SetTO P w D0 L')) J' b xs := fun b xs h => by
    rcases h with ⟨h, n⟩ | h
    · exact .inl ⟨by rw [upd_ne (nt b _ h fun φ => nofun)]; exact h, n⟩
    · exact .inr h
  have kl : ∀ b xs, LstAt c H' J' b xs → LstAt c (upd H' D0 (SetTO P w D0 L')) J' b xs := fun b xs h => by
    rcases h with ⟨h, n⟩ | h
    · refine .inl ⟨?_, n⟩
      rcases h with h | ⟨o, h⟩
      · exact .inl (by rw [upd_ne (nt b _ h fun φ => nofun)]; exact h)
      · exact .inr ⟨o, by rw [upd_ne (nt b _ h fun φ => nofun)]; exact h⟩
    · exact .inr h
  have ro : ∀ b (o : Cn), RO c H' J' b o → RO c (upd H' D0 (SetTO P w D0 L')) J' b o := fun b o h => by
    cases o with
    | lst ds =>
      obtain ⟨xs, e1, h1⟩ := h
      exact ⟨xs, by rw [upd_ne (nt b _ e1 fun φ => nofun)]; exact e1, RVs.monoP kt kl (.refl J') _ _ h1⟩
    | dct kvs =>
      obtain ⟨xs, e1, e2, h1⟩ := h
      exact ⟨xs, by rw [upd_ne (nt b _ e1 fun φ => nofun)]; exact e1, e2, RVs.monoP kt kl (.refl J') _ _ h1⟩
    | ins k ns vs =>
      obtain ⟨dx, fs, e1, e2, h1⟩ := h
      exact ⟨dx, fs, by rw [upd_ne (nt b _ e1 fun φ => nofun)]; exact e1, e2, RVs.monoP kt kl (.refl J') _ _ h1⟩
  refine ⟨⟨⟨a.rs.n, a.rs.inj, fun k o e => ⟨ro _ _ (a.rs.ob k o e).1, (a.rs.ob k o e).2⟩, fun b hb => ?_, fun b hb => ⟨⟨(a.rs.hd b hb).1.1, ?_⟩, (a.rs.hd b hb).2⟩, fun p hpm => ?_, fun b o e => ?_⟩, a.ext, fun b o e n => ?_, fun b hb => ⟨?_, (a.held b hb).2⟩⟩, kt⟩
  · by_cases q : b = D0
    · rw [q, upd_same]; exact nofun
    · rw [upd_ne q]; exact a.rs.mt b hb
  · obtain ⟨xs, e⟩ := (a.rs.hd b hb).1.2
    exact ⟨xs, by rw [upd_ne (nt b _ e fun φ => nofun)]; exact e⟩
  · obtain ⟨ps, e1, e2, e3⟩ := a.rs.tb p hpm
    refine ⟨ps, by rw [upd_ne (nt _ _ e1 fun φ => nofun)]; exact e1, e2, fun pos cv hc => ?_⟩
    obtain ⟨k, e4, e5⟩ := e3 pos cv hc
    refine ⟨k, e4, ?_⟩
    by_cases q : k = D0
    · rw [q, hD] at e5
      exact absurd (Option.some.inj e5) setTO_code
    · rw [upd_ne q]; exact e5
  · by_cases q : b = D0
    · subst q
      rw [upd_same] at e
      cases e
      exact ⟨fun ⟨ps, z⟩ => (nomatch z), fun _ => nm⟩
    · rw [upd_ne q] at e
      exact a.rs.tt b o e
  · have q : b ≠ D0 := fun z => by rw [z, hp] at e; cases e
    rw [upd_ne q]
    exact a.keep b o e n
  · have q : b ≠ D0 := fun z => r.mt b (r.hd b hb).1.1 (by rw [z]; exact hp)
    rw [upd_ne q]
    exact (a.held b hb).1
end
end MS
namespace MP
end MP
namespace MS
open PySem PySem.Spec PyProof.Rows L2
open MP (Sy D Cn Ob Sto R En bd pu no rz nx LIM)
end MS
namespace MP
end MP
namespace MS
open PySem PySem.Spec PyProof.Rows L2 TL
open MP (Sy D Cn Ob Sto R En bd pu no rz nx LIM)
end MS
namespace MP
end MP
namespace MS
open PySem PySem.Spec PyProof.Rows L2
open MP (Sy D Cn Ob Sto R En bd pu no rz nx LIM)
end MS
namespace MP
end MP
namespace MS
open PySem PySem.Spec PyProof.Rows L2 TL
open MP (Sy D Cn Ob Sto R En bd pu no rz nx LIM)
end MS
namespace L2
open PySem PySem.Spec PyProof.Rows
section
variable {M : Model} {A : Around} {E : Value → Shared → Prop} {s : Shared} {env : Env}
/-- behind the block: a value, or an exception that is still to leave it -/
def cpX (M : Model) (A : Around) (E : Value → Shared → Prop) (Q : Value → Shared → Prop) (acc : Value) (cenv : Env) (r : Result) (s' : Shared) : Prop :=
  match r with
  | .ok _ => ∃ m, s'.heap.Ns cenv.locals m ∧ ∀ h', Heap.SameBut cenv.locals s'.heap h' → Q acc { s' with heap := h' }
  | .error x => ∃ m, s'.heap.Ns cenv.locals m ∧ ∀ h', Heap.SameBut cenv.locals s'.heap h' → wpAny M A (passOn "comprehension.variables-let-go" x cenv : Sem Value) (fun _ _ => False) E { s' with heap := h' }
theorem comp_x {e : Expr} {scope : Scope} {pos : Pos} {newAcc first : Sem Value} {g : Comprehension} {gs : List Comprehension} {cl : List (Str × Addr)}
    {Q : Value → Shared → Prop}
    (hcl : clausesOf e = g :: gs) (hs : ∀ x, foldedSetIterable g.iter env x = pure x) (hclos : closureFor scope env = pure cl)
    (hkind : scope.kind = .function) (hnames : ∀ x ∈ scope.names, x.2 = .local → scope.names.lookup x.1 = some .local)
    (h : wpAny M A first (fun x s₁ => wpAny M A (pyIter x) (fun it s₂ => wpAny M A newAcc (fun acc s₃ =>
      wpAny M A (newFunctionEnv scope env.globals cl [] env.qual none .none (some env)) (fun cenv s₄ =>
        codeAny M A (.compStart e 0 it acc { cenv with scope := relabel scope env }) (cpX M A E Q acc { cenv with scope := relabel scope env }) s₄) E s₃) E s₂) E s₁) E s) :
    wpAny M A (comprehension e scope env pos newAcc false first none) Q E s := by
  unfold comprehension
  rw [hclos, hcl]
  refine wpAny_bind (wpAny_mono h (fun x s₁ h₁ => wpAny_bind (wpAny_standAt (wpAny_bind (wpAny_of_eq (hs x) (wpAny_bind (wpAny_holding (wpAny_mono h₁ (fun it s₂ h₂ =>
    wpAny_standIf (wpAny_bind (wpAny_mono h₂ (fun acc s₃ h₃ => wpAny_bind (wpAny_pure (wpAny_bind (wpAny_mono h₃ (fun cenv s₄ h₄ => ?_) fun _ _ h' => h')))) fun _ _ h' => h')))
      fun _ _ h' => h'))))))) fun _ _ h' => h')
  dsimp only
  have hv : ∀ x ∈ (scope.names.filter fun x => (x.2 == .local || x.2 == .cell) && x.1 != (".0" : Str)).reverse, x.2 = .local →
      Env.kindOf { cenv with scope := relabel scope env } x.1 = some .local := fun x hx hl => lookup_relabel_local (hnames x (List.mem_filter.mp (List.mem_reverse.mp hx)).1 hl)
  refine wpAny_holding (wpAny_bind (wpAny_attempt (wpAny_holding (wpAny_run (codeAny_mono h₄ fun r s' hr => ?_)))))
  cases r with
  | ok f =>
    obtain ⟨m, hn, hr⟩ := hr
    exact wpAny_bind (wpAny_holding (wpAny_comp_letGo (cenv := { cenv with scope := relabel scope env }) hkind _ s' m hv hn fun h' m' _ hs' => wpAny_pure (hr h' hs')))
  | error x =>
    obtain ⟨m, hn, hr⟩ := hr
    exact wpAny_bind (wpAny_holding (wpAny_comp_letGo (cenv := { cenv with scope := relabel scope env }) hkind _ s' m hv hn fun h' m' _ hs' => wpAny_mono (hr h' hs') (fun _ _ f => f.elim) fun _ _ y => y))
end
theorem funs_but {h h' B B' : Heap} {C : Addr} (sb : Heap.SameBut C h h') (hB : ∀ b, B.get? b = none → B'.get? b = none) : ∀ {l : List Env}, C ∉ frs l → h.FunFrames B l → h'.FunFrames B' l
  | [], _, _ => trivial
  | env :: rest, hc, hl => by
    obtain ⟨hk, ⟨L, o, hf, hn, ho, hd⟩, hr⟩ := hl
    have e : frs (env :: rest) = L :: frs rest := by
      unfold frs
      rw [List.filterMap_cons, hf]
    rw [e] at hc
    have hL : L ≠ C := fun z => hc (by rw [z]; exact List.mem_cons_self)
    exact ⟨hk, ⟨L, o, hf, hB L hn, (sb.2 L hL).trans ho, hd⟩, funs_but sb hB (fun z => hc (List.mem_cons_of_mem _ z)) hr⟩
theorem held_but {h h' B B' : Heap} {C a L : Addr} {l : List Env} {Z : Obj → Prop} {oC : Obj} (hh : HandSPX.HeldZ B l a Z L h) (sb : Heap.SameBut C h h') (hC : h.get? C = some oC) (hCd : ∀ vs, oC.data ≠ .fields vs) (hl : C ∉ frs l)
    (k : ∀ b o, B'.get? b = some o → B.get? b = some o) (hB : B'.get? C = none) : HandSPX.HeldZ B' l a Z L h' := by
  obtain ⟨x1, x2, x3, oe, vs, T, oT, ts, he, hz, hd, h1, hnT, hTe, hT, hdT, h3⟩ := hh
  have kn : ∀ b, B.get? b = none → B'.get? b = none := fun b e => by
    cases q : B'.get? b with
    | none => rfl
    | some o => rw [k b o q] at e; cases e
  have na : a ≠ C := fun z => by
    rw [z, hC] at he; cases he
    exact hCd _ hd
  have nT : T ≠ C := fun z => by
    rw [z, hC] at hT; cases hT
    exact hCd _ hdT
  refine ⟨fun b o e => ?_, kn _ x2, funs_but sb kn hl x3, oe, vs, T, oT, ts, (sb.2 a na).trans he, hz, hd, h1, kn _ hnT, hTe, (sb.2 T nT).trans hT, hdT, h3⟩
  have nb : b ≠ C := fun z => by rw [z, hB] at e; cases e
  exact (sb.2 b nb).trans (x1 b o (k b o e))
theorem note_frame {e : Value} {env env' : Env} (h : env.frame = env'.frame) : noteFrame e env = noteFrame e env' := by
  unfold noteFrame PySem.frameOf
  rw [h]
/-- an exception that another hand holds -/
theorem looks_otherZ {M : Model} {A : Around} {E : Value → Shared → Prop} {s : Shared} {env : Env} {outer : List Env} {base : Heap} {e L : Addr} {Z : Obj → Prop} {fl : Value} {Q : Unit → Shared → Prop} (hZ : HandSPX.Steady Z) (hfr : A.frames = some (env :: outer)) (hf : env.frame = some L)
    (hkb : base.StaysIn s.heap) (hen : base.get? e = none) (hl : s.heap.FunFrames base (env :: outer)) (ht : HandSPX.TracedZ s.heap base e Z fl) (hfl : (fl == rawInt L) = false)
    (hQ : ∀ h', HandSPX.HeldZ base (env :: outer) e Z L h' → s.heap.UpToSlots h' → Q () { s with heap := h' }) : wpAny M A (noteFrame (.ref e) env) Q E s := by
  obtain ⟨oe, vs, T, oT, ts, he, hz, hd, h1, hnT, hTe, hT, hdT, h3⟩ := ht
  unfold noteFrame
  simp only [hf]
  refine wpAny_bind (wpAny_field he hd h1 ?_)
  rw [if_pos (show (Value.ref T != Value.none) = true from by simp)]
  refine wpAny_bind (wpAny_field hT hdT h3 ?_)
  rw [if_neg (by simp [hfl])]
  refine wpAny_bind (wpAny_setField hT hdT (Array.getElem?_eq_some_iff.mp h3).1 ?_)
  have other : ∀ b, b ≠ T → (s.heap.update T (Obj.mapFields (·.setIfInBounds 3 Value.none))).get? b = s.heap.get? b := fun b hb => Heap.get?_update_other _ _ (Ne.symm hb)
  have noRecord : ∀ b o, s.heap.get? b = some o → (∀ vs, o.data ≠ .fields vs) → b ≠ T := fun b o hb hnf q => by
    rw [q, hT] at hb; injection hb with hb; subst hb; exact hnf ts hdT
  refine HandSPX.wpAny_entryZ hZ hfr (hl.of_keeps fun b o hb hnf => ⟨o, (other b (noRecord b o hb hnf)).trans hb, rfl⟩) hf ((other e (Ne.symm hTe)).trans he)
    (fun b o hbo => (other b fun q => by rw [q, hnT] at hbo; cases hbo).trans (hkb b o hbo)) hen hd (Array.getElem?_eq_some_iff.mp h1).1 hz fun h' hN => ?_
  obtain ⟨x1, x2, x3, x4⟩ := hN
  exact hQ h' ⟨x1, hen, x2, x3⟩ fun b o hb hnf => x4 b o ((other b (noRecord b o hb hnf)).trans hb) hnf
/-- the block's context, with a wish about exceptions -/
abbrev Cx.blx (X : Cx) (s : Shared) (H : Hp) (scope : Scope) (cenv : Env) (fp : List Addr) (xe : Value → Shared → Prop) : Cx := { X.blk s H scope cenv fp with xe := xe }
theorem blk_air {X : Cx} {W : WX} {pins : List (Addr × Obj)} {σ : St} {H3 : Hp} {s3 s' : Shared} {scope : Scope} {ce : Env} {fp : List Addr} {xe E1 : Value → Shared → Prop} {u acc : Value} {Q : Value → Shared → Prop}
    (hs : X.stack = X.env :: X.outer) (hf : X.env.frame = some X.env.locals) (tk : Takes X W) (I3 : Inv X pins σ H3 s3)
    (f3 : ∀ b ∈ fp, FpOk X pins H3 b ∧ b < s3.heap.objs.size) (hce : ce.frame = X.env.frame) (hL : ce.locals = s3.heap.objs.size)
    (x : XE (X.blx s3 H3 scope ce fp xe) (fun cls d _ H => W cls d σ H) u s') :
    wpAny (model X.prog X.w) X.A (noteFrame u ce) (fun _ s'' => cpX (model X.prog X.w) X.A X.xe Q acc ce (.error u) s'') E1 s' := by
  obtain ⟨a, B, sI, pinsb, σb, H', cls, d, rfl, I6, nb, up, sky, na, os, ag, w⟩ := x
  rw [note_frame hce]
  have hfr : X.A.frames = some (X.env :: X.outer) := by rw [I3.ok.frames, hs]
  obtain ⟨m, hn, _⟩ := I6.loc
  have hn : sI.heap.Ns ce.locals m := hn
  rw [hL] at hn
  generalize hC : s3.heap.objs.size = C at *
  have nC : H' C = none := by
    have z : H' ce.locals = none := I6.free
    rw [hL] at z
    exact z
  have I7 : Inv X pins σ H' sI := I3.call' (ch := fp) I6.os I6.base I6.hok I6.bare fun b hb => ⟨(f3 b hb).1.2.2.2.1, (f3 b hb).1.2.1, (f3 b hb).1.2.2.2.2.1, (f3 b hb).1.2.2.2.2.2⟩
  have fpC : FpOk X pins H' C := I3.fpOk (Nat.le_of_eq hC) nC
  obtain ⟨f0, f1, f2, f3', f4, f5⟩ := fpC
  have nst : C ∉ frs X.stack := fun z => by
    rcases List.mem_cons.mp (I3.stkSub C z) with z | z
    · exact f1 z
    · exact f2 z
  obtain ⟨G, g1, g2⟩ := restrict sI.heap fun b => decide (b ≠ C)
  obtain ⟨B', b1, b2⟩ := restrict B fun b => decide (b ≠ C)
  have gk : ∀ b o, b ≠ C → sI.heap.get? b = some o → G.get? b = some o := fun b o hb e => by rw [g1 b (by simpa using hb)]; exact e
  have gC : G.get? C = none := g2 C (by simp)
  have go : ∀ b o, G.get? b = some o → b ≠ C ∧ sI.heap.get? b = some o := fun b o e => by
    have hb : b ≠ C := fun z => by rw [z, gC] at e; cases e
    exact ⟨hb, by rw [← g1 b (by simpa using hb)]; exact e⟩
  have bC : B'.get? C = none := b2 C (by simp)
  have bo : ∀ b o, B'.get? b = some o → B.get? b = some o := fun b o e => by
    have hb : b ≠ C := fun z => by rw [z, bC] at e; cases e
    rw [← b1 b (by simpa using hb)]; exact e
  have I8 : Inv X pins σ H' { sI with heap := G, toks := sI.toks } := I7.turned gk f0 f1 f3' f4 f5
  obtain ⟨oC, es, ep, hoC, hdict, sk, nf⟩ := hn
  have hdC : ∀ vs, oC.data ≠ .fields vs := fun vs e => by rw [hdict] at e; cases e
  have hBC : B.get? C = some oC := nb C oC hoC nst
  have sky : Sky B X.stack a (Zc cls d) C s'.heap := by rw [← hL]; exact sky
  have nst2 := nst
  rw [hs] at nst2 sky
  have fin : ∀ h1, HandSPX.HeldZ B (X.env :: X.outer) a (Zc cls d) X.env.locals h1 → s'.heap.UpToSlots h1 → cpX (model X.prog X.w) X.A X.xe Q acc ce (.error (.ref a)) { s' with heap := h1 } := fun h1 hh up1 => by
    have hC1 : h1.get? C = some oC := hh.1 C oC hBC
    refine ⟨m, ?_, fun h' sb => ?_⟩
    · show h1.Ns ce.locals m
      rw [hL]
      exact ⟨oC, es, ep, hC1, hdict, sk, nf⟩
    rw [hL] at sb
    have hh' := held_but hh sb hC1 hdC nst2 bo bC
    have hh0 := hh'
    obtain ⟨x1, x2, x3, oe, vs, T, oT, ts, he, hz, hd, h1', hnT, hTe, hT, hdT, h3⟩ := hh'
    unfold PySem.passOn
    refine wpAny_bind (wpAny_field he hd h1' ?_)
    rw [if_neg (show ¬ (Value.ref T == Value.none) = true from by simp)]
    refine wpAny_bind ?_
    rw [hce, hf]
    refine HandSPX.setFlight_onZ hh0 fun h2 hh2 up2 => ?_
    have uG : G.UpToSlots h' := fun b o e n => by
      obtain ⟨hb, e⟩ := go b o e
      obtain ⟨sl, e1⟩ := (up.trans up1) b o e n
      exact ⟨sl, (sb.2 b hb).trans e1⟩
    refine wpAny_throw (tk _ _ ⟨a, B', { sI with heap := G, toks := sI.toks }, pins, σ, H', cls, d, rfl, I8, fun b o e hb => ?_, uG.trans up2, by rw [hs]; exact .inr (.inr hh2), na, os, ag, w⟩)
    obtain ⟨hb2, e⟩ := go b o e
    rw [b1 b (by simpa using hb2)]
    exact nb b o e hb
  rcases sky with ⟨hB, hn', hl, oe, vs, he, hz, hd, h1⟩ | fl | hh
  · exact HandSPX.look_newZ Zc.steady hfr hl hf he hB hn' hd h1 hz fin
  · exact HandSPX.looks_onZ Zc.steady hfr hf fl fin
  · obtain ⟨x1, x2, x3, x4⟩ := hh
    have n0 : ¬ C = X.env.locals := f1
    exact looks_otherZ Zc.steady hfr hf x1 x2 x3 x4 (by simp [rawInt]; exact fun z => n0 (Int.ofNat.inj z)) fin
def tLcX (wi : TI) (g : TG) (tt : TT) (te : St → TE) (vs : List Nat) : TE := fun σ H Q => wi σ H fun J H1 => ∀ D, H1 D = none → ∃ W : Nat → Nat → Hp → Prop, (∃ m, W 0 m (upd H1 D (.lst []))) ∧ ∀ i m H, W i m H →
  (J.stop i H ∧ Q (.ref D) H) ∨ (J.go i H ∧ ∃ Nx : Hp → Prop, (∀ H', Nx H' → ∃ m', m' < m ∧ W (i + 1) m' H') ∧ ∀ x H', J.yld i H x H' → g x (wipe σ vs) H' fun σ2 H2 => wipe σ2 vs = wipe σ vs ∧ tt σ2 H2 fun b H3 =>
    if b = true then te σ σ2 H3 fun y H4 => ∃ acc, H4 D = some (.lst acc) ∧ acc.length < sizeLine ∧ Nx (upd H4 D (.lst (acc ++ [y]))) else Nx H3)
theorem thnX {α : Type} {t : Sem α} {Q Q' : α → Shared → Prop} {M : Model} {A : Around} {E E' : Value → Shared → Prop} {s : Shared} (e : E' = E) (h : wpAny M A t Q E s) (hQ : ∀ a s, Q a s → Q' a s) : wpAny M A t Q' E' s := by
  subst e
  exact wpAny_mono h hQ fun _ _ z => z
/-- [elt for target in iter if ..], whose element may raise -/
theorem pe_lcx {X : Cx} {W0 : WX} {elt tg iter : Expr} {ifs : List Expr} {scope : Scope} {own : List (Str × Nat)} {pos : Pos} {wi : TI} {g : TG} {tt : TT} {te : St → TE}
    (hst : X.stack = X.env :: X.outer) (hf : X.env.frame = some X.env.locals) (tk : Takes X W0)
    (hc : X.calm = true) (hN : X.N.Nodup) (hi : PI X tg iter wi) (ok : BlkOk X.N X.env.scope scope own)
    (hg : ∀ (s : Shared) (H : Hp) (C : Addr) (cl : List (Str × Addr)) (fp : List Addr) (xe : Value → Shared → Prop), PG (X.blx s H scope (compEnvC scope cl C X.env) fp xe) tg g)
    (ht : ∀ (s : Shared) (H : Hp) (C : Addr) (cl : List (Str × Addr)) (fp : List Addr) (xe : Value → Shared → Prop), PTs (X.blx s H scope (compEnvC scope cl C X.env) fp xe) ifs tt)
    (he : ∀ (s : Shared) (H : Hp) (C : Addr) (cl : List (Str × Addr)) (fp : List Addr) (xe : Value → Shared → Prop) (σ : St), Takes (X.blx s H scope (compEnvC scope cl C X.env) fp xe) (fun cls d _ H => W0 cls d σ H) → PE (X.blx s H scope (compEnvC scope cl C X.env) fp xe) elt (te σ))
    (hsi : ∀ x, foldedSetIterable iter X.env x = pure x) :
    PE X (.ListComp elt [⟨tg, iter, ifs, 0⟩] scope pos) (tLcX wi g tt te (own.map (·.2))) := by
  refine ⟨fun pins s σ H Q I h => ?_⟩
  rw [eval_ListComp]
  have hfree : ∀ y ∈ scope.names, y.2 = .free → ∃ c, X.env.cells.lookup y.1 = some c := fun y hy e => by
    rcases ok.free y hy e with k | k
    · exact I.ok.has _ (.inl k)
    · exact I.ok.has _ (.inr k)
  refine comp_x rfl hsi (closure_ok hfree) ok.kind (fun y hy e => by rw [ok.uniq y hy, e])
    (thn (hi.run pins s σ H _ I h) fun xv s1 hx => thn hx fun itv s2 h2 => ?_)
  obtain ⟨it, fp, tn, J, H2, e, I2, T, st2, f2, q⟩ := h2
  subst e
  refine wpAny_newObj_type (newEnv_comp ?_) (by show 0 ≤ sizeLine; decide)
  generalize hD : s2.heap.objs.size = D
  have hDn : H2 D = none := I2.hok.fresh (Nat.le_of_eq hD)
  obtain ⟨W, ⟨m0, w0⟩, turn⟩ := q D hDn
  -- the new list
  generalize hs3 : ({ s2 with heap := s2.heap.push { cls := .type "list", data := .seq ([] : List Value).toArray } } : Shared) = s3
  have I3 : Inv X pins σ (upd H2 D (.lst [])) s3 := by
    rw [← hs3]
    refine I2.laid (t' := s2.toks) (fun b o e => Heap.get?_push_of_some _ e) (Nat.le_of_eq hD) ⟨Nat.zero_le _, [], 0, .nil, ?_⟩
    rw [← hD]
    exact Heap.get?_push_size _ rfl
  have h3 : s3.heap = s2.heap.push { cls := .type "list", data := .seq ([] : List Value).toArray } := by rw [← hs3]
  have sz : ∀ b ∈ fp, b < s2.heap.objs.size := fun b hb => by
    obtain ⟨o, e, _⟩ := T.obj _ _ st2 b hb
    exact Heap.lt_size e
  have f3 : ∀ b ∈ fp, FpOk X pins (upd H2 D (.lst [])) b ∧ b < s3.heap.objs.size := fun b hb => by
    have hlt := sz b hb
    refine ⟨⟨?_, (f2 b hb).2⟩, by rw [h3, Heap.size_push]; exact Nat.lt_succ_of_lt hlt⟩
    rw [upd_ne (by rw [← hD]; exact Nat.ne_of_lt hlt)]
    exact (f2 b hb).1
  have st3 : tn 0 s3.heap := T.keep _ _ _ st2 fun b _ o e => by rw [h3]; exact Heap.get?_push_of_some _ e
  have I4 := block_start I3 ok hN f3
  show codeAny _ _ (.compStart (.ListComp elt [⟨tg, iter, ifs, 0⟩] scope pos) 0 (.ref it) (.ref D) (compEnvC scope (cellsFrom (s3.heap.objs.size + 1) scope.names (cloFrom X.env.cells scope.names [])) s3.heap.objs.size X.env)) (cpX (model X.prog X.w) X.A X.xe (EP X pins σ Q) (.ref D) (compEnvC scope (cellsFrom (s3.heap.objs.size + 1) scope.names (cloFrom X.env.cells scope.names [])) s3.heap.objs.size X.env)) { s3 with heap := pushCells (s3.heap.push { cls := .type "dict", data := .dict #[] }) scope.names }
  have nfp : ∀ b ∈ fp, (upd H2 D (.lst [])) b = none := fun b hb => (f3 b hb).1.1
  generalize hcl : cellsFrom (s3.heap.objs.size + 1) scope.names (cloFrom X.env.cells scope.names []) = cl at I4 ⊢
  generalize hce : compEnvC scope cl s3.heap.objs.size X.env = ce at I4 ⊢
  have cF : ce.frame = X.env.frame := by subst hce; rfl
  have cL : ce.locals = s3.heap.objs.size := by subst hce; rfl
  generalize hH3 : upd H2 D (.lst []) = H3 at I3 I4 w0 nfp f3
  generalize hxe : notedBy (model X.prog X.w) X.A ce (fun e s' => cpX (model X.prog X.w) X.A X.xe (EP X pins σ Q) (.ref D) ce (.error e) s') = xe
  have tx : Takes (X.blx s3 H3 scope ce fp xe) (fun cls d _ H => W0 cls d σ H) := fun u s' x => by
    show xe u s'
    rw [← hxe]
    exact blk_air hst hf tk I3 f3 cF cL x
  have I4 : Inv (X.blx s3 H3 scope ce fp xe) [] (wipe σ (own.map (·.2))) H3 { s3 with heap := pushCells (s3.heap.push { cls := .type "dict", data := .dict #[] }) scope.names } := I4.toTry xe
  have pg := hg s3 H3 s3.heap.objs.size cl fp xe
  have pt := ht s3 H3 s3.heap.objs.size cl fp xe
  have pe := he s3 H3 s3.heap.objs.size cl fp xe σ
  rw [hce] at pg pt pe
  have pe := pe tx
  generalize hs4 : ({ s3 with heap := pushCells (s3.heap.push { cls := .type "dict", data := .dict #[] }) scope.names } : Shared) = s4 at I4 ⊢
  have st4 : tn 0 s4.heap := T.keep _ _ _ st3 fun b _ o e => by rw [← hs4]; exact pushCells_keeps _ _ _ _ (Heap.get?_push_of_some _ e)
  have stat : ∀ {σ' : St} {H' : Hp} {s' : Shared}, Inv (X.blx s3 H3 scope ce fp xe) [] σ' H' s' → (∀ b ∈ fp, H' b = none) → ∀ b ∈ fp, FpOk (X.blx s3 H3 scope ce fp xe) [] H' b := fun {σ' H' s'} I' hn b hb =>
    ⟨hn b hb, (I'.ok.exf b hb).1, I'.ok.exfs b hb, .inl hb, fun x c e => (I'.ok.exf b hb).2 x c e, fun p hp => absurd (show p ∈ ([] : List (Addr × Obj)) ++ [] from hp) (by simp)⟩
  have loop : codeAny (model X.prog X.w) X.A (.compLoop (.ListComp elt [⟨tg, iter, ifs, 0⟩] scope pos) 0 (.ref it) (.ref D) ce) (cpX (model X.prog X.w) X.A X.xe (EP X pins σ Q) (.ref D) ce) s4 := by
    refine compLoop_any (fun n s' => ∃ i H', Inv (X.blx s3 H3 scope ce fp xe) [] (wipe σ (own.map (·.2))) H' s' ∧ tn i s'.heap ∧ (∀ b ∈ fp, H' b = none) ∧ W i n H') ?_ m0 ⟨0, H3, I4, st4, nfp, w0⟩
    rintro n s5 ⟨i, H5, I5, st5, n5, w5⟩
    rcases turn i n H5 w5 with ⟨stop, qq⟩ | ⟨go, Nx, hNx, step⟩
    · have td := T.done (X.blx s3 H3 scope ce fp xe) rfl rfl rfl hc i [] s5 _ H5 (fun _ _ => False) I5 (stat I5 n5) st5 stop
      refine thnF td fun r s6 ⟨hr, I6⟩ => ?_
      subst hr
      -- back in the def's context
      have I7 : Inv X pins σ H5 s6 := I3.call' (ch := fp) I6.os I6.base I6.hok I6.bare fun b hb => ⟨(f3 b hb).1.2.2.2.1, (f3 b hb).1.2.1, (f3 b hb).1.2.2.2.2.1, (f3 b hb).1.2.2.2.2.2⟩
      have nC : H5 s3.heap.objs.size = none := by
        have z : H5 ce.locals = none := I6.free
        rw [cL] at z
        exact z
      obtain ⟨m, hn, _⟩ := I6.loc
      have hn : s6.heap.Ns ce.locals m := hn
      rw [cL] at hn
      obtain ⟨f0, f1, f2, f3', f4, f5⟩ := I3.fpOk (Nat.le_refl _) nC
      refine ⟨m, by rw [cL]; exact hn, fun h'' sb => ?_⟩
      rw [cL] at sb
      exact ⟨.ref D, H5, I7.turned (t' := s6.toks) (fun b o hb e => (sb.2 b hb).trans e) f0 f1 f3' f4 f5, rfl, qq⟩
    · have ti := T.item (X.blx s3 H3 scope ce fp xe) rfl rfl rfl hc i [] s5 _ H5 (fun _ _ => False) I5 (stat I5 n5) st5 go
      refine thnF ti fun r s6 ⟨u, hr, h6⟩ => ?_
      subst hr
      refine thnF h6 fun _ s7 ⟨x, H7, I7, r7, y7, st7, n7⟩ => ?_
      have I7' := I7.pinned (stat I7 n7) (T.obj _ _ st7)
      refine thnX hxe (pg.run _ s7 _ H7 x u _ I7' r7 (step x H7 y7)) fun _ s8 ⟨σ8, H8, I8, hw8, q8⟩ => ?_
      refine thnX hxe (pt.run _ s8 σ8 H8 _ I8 q8) fun b s9 ⟨H9, I9, q9⟩ => ?_
      -- the turn's end
      have fin : ∀ {s' : Shared} {H' : Hp}, Inv (X.blx s3 H3 scope ce fp xe) ([] ++ pinsAt fp s7.heap) σ8 H' s' → Nx H' → ∃ m, m < n ∧ ∃ i H', Inv (X.blx s3 H3 scope ce fp xe) [] (wipe σ (own.map (·.2))) H' s' ∧ tn i s'.heap ∧ (∀ b ∈ fp, H' b = none) ∧ W i m H' := fun {s' H'} I' nx => by
        obtain ⟨m', hm, w'⟩ := hNx H' nx
        have pin' : ∀ b ∈ fp, ∀ o, s7.heap.get? b = some o → s'.heap.get? b = some o ∧ H' b = none := fun b hb o e =>
          let z := I'.pin (b, o) (List.mem_append_right _ (List.mem_append_right _ (mem_pinsAt hb e)))
          ⟨z.1, z.2.1⟩
        have hl : (wipe σ (own.map (·.2))).length = σ8.length := by rw [← hw8, wipe_length]
        refine ⟨m', hm, i + 1, H', (I'.unpinned (pins := [])).weak hl (fun j v e => ?_), T.keep _ _ _ st7 fun b hb o e => (pin' b hb o e).1, fun b hb => ?_, w'⟩
        · rw [← hw8] at e
          exact (wipe_some e).1
        · obtain ⟨o, e, _⟩ := T.obj _ _ st7 b hb
          exact (pin' b hb o e).2
      cases b with
      | false =>
        simp only [Bool.false_eq_true, if_false] at q9 ⊢
        exact fin I9 q9
      | true =>
        simp only [if_true] at q9 ⊢
        refine thnX hxe (pe.run _ s9 σ8 H9 _ I9 q9) fun z s10 ⟨yv, H10, I10, r10, acc, hD10, hz10, nx⟩ => ?_
        exact app_ok (X := X.blx s3 H3 scope ce fp xe) I10 hD10 hz10 r10 fun s11 I11 => fin I11 nx
  exact codeAny_compStart_list loop (T.self X.A 0 _ _ _ st4 loop)
end L2
namespace MP
def compX (tg : Tg) (t : T) (elt : E) (ok : Sto → Bool) (e : En) : List D → M (List D)
  | [] => pu []
  | d :: r => fun s => if ok s then (match tg.put d e with
    | some e' => bd (nx (t e')) (fun b => if b then bd (elt e') fun x => bd (compX tg t elt ok e r) fun xs => pu (x :: xs) else compX tg t elt ok e r) s
    | none => .bad) else .bad
def cmpXF (src : Src) (tg : Tg) (t : T) (elt : E) (vs : List Nat) : Es := fun e => bd (src e) fun p => if p.1.length ≤ LIM then bd (compX tg t elt p.2 (wipeE e vs) p.1) fun xs => fun s =>
  if p.2 s && decide (xs.length ≤ LIM) then .ok xs s else .bad else no
end MP
namespace MS
open PySem PySem.Spec PyProof.Rows L2 TL
open MP (Sy D Cn Ob Sto R En bd pu no rz nx LIM)
section
variable {X : Cx} {c : Ct} {W : WX} {pos : Pos} {tg : Expr} {σ : L2.St} {H H1 : Hp} {J J1 : Jm} {S S1 : Sto} {env : En}
theorem bindX {α γ δ : Type} {W' : WX} {rel' : Hp → Jm → γ → δ → Prop} {r0 : R α} {m : En → MP.M γ} {k : γ → MP.M α} (r : RSt c J env S σ H) (nb : r0 ≠ .bad) (h : bd (m env) k S = r0)
    (hx : ∀ kk ns vs S', r0 = .exc kk ns vs S' → ∀ H' J' dx fs, Aft c H J H' J' S' → H' dx = some (.xd fs) → ¬ J'.m dx → fs.map (·.1) = ns.map sy → RVs c H' J' vs (fs.map (·.2)) → W' (.ref (c.cad kk)) (some dx) σ H') :
    tG c W' rel' m σ H fun (v : δ) H1 => ∃ d S1 J1, Aft c H J H1 J1 S1 ∧ RSt c J1 env S1 σ H1 ∧ rel' H1 J1 d v ∧ k d S1 = r0 := by
  refine ⟨J, env, S, r, ?_⟩
  unfold bd at h
  cases e : m env S with
  | ok d S' =>
    rw [e] at h
    exact fun v H' J' a q => ⟨d, S', J', a, r.aft a, q, h⟩
  | exc kk ns vs S' => rw [e] at h; exact hx kk ns vs S' h.symm
  | bad => rw [e] at h; exact absurd h.symm nb
theorem compX_cons {tg : MP.Tg} {t : MP.T} {elt : MP.E} {ok : Sto → Bool} {e e' : En} {d : D} {r : List D} {s : Sto} (h : ok s = true) (hp : tg.put d e = some e') : MP.compX tg t elt ok e (d :: r) s =
    bd (nx (t e')) (fun b => if b = true then bd (elt e') fun x => bd (MP.compX tg t elt ok e r) fun xs => pu (x :: xs) else MP.compX tg t elt ok e r) s := by
  conv => lhs; unfold MP.compX
  rw [if_pos h, hp]
theorem cmpX_lc {src : MP.Src} {tg : MP.Tg} {t : MP.T} {elt : MP.E} {vs : List Nat} {σ : L2.St} {H : Hp} {Q : VK} (hi : ∀ i ∈ Tg.ids tg, i ∈ vs) (h : tF c W (MP.cmpXF src tg t elt vs) σ H Q) : tLcX (tI c W src) (gT c tg) (tT c W0 t) (fun σ0 => tM c (fun cls d _ H => W cls d σ0 H) elt) vs σ H Q := by
  obtain ⟨J, env, S, r, p⟩ := h
  refine tG.imp (bindF (rel' := SrcAt c) r p) fun It H1 ⟨q, S1, J1, a1, r1, v1, p1⟩ => fun D0 hD => ?_
  have lq : q.1.length ≤ LIM := by
    by_cases z : q.1.length ≤ LIM
    · exact z
    · rw [if_neg z] at p1; exact p1.elim
  rw [if_pos lq] at p1
  have p1 : PostF c W σ H1 J1 Q (bd (MP.compX tg t elt q.2 (MP.wipeE env vs) q.1) (endC q.2 []) S1) := p1
  generalize hr : bd (MP.compX tg t elt q.2 (MP.wipeE env vs) q.1) (endC q.2 []) S1 = r0 at p1
  have nb : r0 ≠ .bad := fun e => by rw [e] at p1; exact p1
  refine ⟨fun i m H' => m = q.1.length - i ∧ i ≤ q.1.length ∧ ∃ J' S' acc xs, xs.length ≤ i ∧ Aft c H1 J1 H' J' S' ∧ J'.h D0 ∧ H' D0 = some (.lst acc) ∧ RVs c H' J' xs acc ∧ bd (MP.compX tg t elt q.2 (MP.wipeE env vs) (q.1.drop i)) (endC q.2 xs) S' = r0,
    ⟨q.1.length, rfl, Nat.zero_le _, J1.hold D0, S1, [], [], Nat.zero_le _, .hold r1.rs hD, .inr rfl, upd_same, rfl, hr⟩, fun i m H' ⟨hm, hi2, J', S', acc, xs, hx, af, hh, hD', hv, hr⟩ => ?_⟩
  by_cases hlt : i < q.1.length
  · refine .inr ?_
    have e : q.1.drop i = q.1[i] :: q.1.drop (i + 1) := List.drop_eq_getElem_cons hlt
    rw [e] at hr
    have hok : q.2 S' = true := by
      by_cases h : q.2 S' = true
      · exact h
      · unfold bd MP.compX at hr
        simp only [if_neg h] at hr
        exact absurd hr.symm nb
    obtain ⟨hgo, hyl⟩ := (v1 H' J' S' af.w hok).1 i hlt
    refine ⟨hgo, fun H2 => ∃ J' S' acc xs, xs.length ≤ i + 1 ∧ Aft c H1 J1 H2 J' S' ∧ J'.h D0 ∧ H2 D0 = some (.lst acc) ∧ RVs c H2 J' xs acc ∧ bd (MP.compX tg t elt q.2 (MP.wipeE env vs) (q.1.drop (i + 1))) (endC q.2 xs) S' = r0, fun H2 h => ⟨q.1.length - (i + 1), by omega, rfl, by omega, h⟩, fun x H2 y => ?_⟩
    obtain ⟨d, ed, a2, v2, ex⟩ := hyl x H2 y
    have ed : q.1[i] = d := by
      have : q.1[i]? = some q.1[i] := by simp [hlt]
      rw [this] at ed
      exact Option.some.inj ed
    rw [ed] at hr
    cases ep : tg.put d (MP.wipeE env vs) with
    | none =>
      unfold bd MP.compX at hr
      simp only [if_pos hok, ep] at hr
      exact absurd hr.symm nb
    | some e' =>
      have af2 := af.trans a2
      have hr2 : bd (nx (t e')) (fun b => bd (if b = true then bd (elt e') fun x => bd (MP.compX tg t elt q.2 (MP.wipeE env vs) (q.1.drop (i + 1))) fun xs => pu (x :: xs) else MP.compX tg t elt q.2 (MP.wipeE env vs) (q.1.drop (i + 1))) (endC q.2 xs)) S' = r0 := by
        rw [← MP.bd_bd]
        exact (bd_congr (compX_cons hok ep)).symm.trans hr
      refine ⟨J', _, S', d, e', (((r1.aft af).aft a2).wipe vs), v2, ep, fun σ' r3 hw => ⟨?_, ?_⟩⟩
      · rw [hw vs hi, wipe_wipe]
      · refine tG.imp (bindN (rel' := relB) r3 nb hr2) fun b H3 ⟨b', S3, J3, a3, r4, e3, hr3⟩ => ?_
        cases e3
        have hD3 := (a3.held D0 (a2.held D0 hh).2)
        have hD3' : H3 D0 = some (.lst acc) := by rw [hD3.1, ex D0 _ hD']
        have hv3 := (hv.aft a2).aft a3
        cases b with
        | false => exact ⟨J3, S3, acc, xs, by omega, af2.trans a3, hD3.2, hD3', hv3, hr3⟩
        | true =>
          have hr3 : bd (bd (elt e') fun x => bd (MP.compX tg t elt q.2 (MP.wipeE env vs) (q.1.drop (i + 1))) fun xs => pu (x :: xs)) (endC q.2 xs) S3 = r0 := hr3
          rw [MP.bd_bd] at hr3
          refine tG.imp (bindX (rel' := RV c) (W' := fun cls d _ H => W cls d σ H) r4 nb hr3 fun k ns vs S' e H' J' dx fs b => by
            rw [e] at p1
            exact p1 H' J' dx fs ((af2.trans a3).trans b)) fun y H4 ⟨dy, S4, J4, a4, r5, v4, hr4⟩ => ?_
          have hr4 : bd (MP.compX tg t elt q.2 (MP.wipeE env vs) (q.1.drop (i + 1))) (endC q.2 (xs ++ [dy])) S4 = r0 := by
            rw [MP.bd_bd] at hr4
            refine .trans ?_ hr4
            congr 1
            funext ys
            show endC q.2 (xs ++ [dy]) ys = endC q.2 xs (dy :: ys)
            unfold endC
            simp
          have hD4 := a4.held D0 hD3.2
          have hv4 := hv3.aft a4
          have hl : xs.length < LIM := by omega
          obtain ⟨a5, k5⟩ := Aft.grow (ys := acc ++ [y]) ((af2.trans a3).trans a4) hD r1.rs hD4.2
          exact ⟨acc, hD4.1.trans hD3', by rw [← hv4.length, lim_line]; exact hl, J4, S4, acc ++ [y], xs ++ [dy], by simp; omega, a5, hD4.2, upd_same, k5 _ _ (hv4.app (.cons v4 .nil)), hr4⟩
  · have hi3 : i = q.1.length := by omega
    subst hi3
    rw [List.drop_length] at hr
    have hr : endC q.2 xs [] S' = r0 := hr
    unfold endC at hr
    rw [List.append_nil] at hr
    split at hr
    · rename_i hk
      simp only [Bool.and_eq_true] at hk
      subst hr
      refine .inl ⟨(v1 H' J' S' af.w hk.1).2, p1 D0 acc H' (J'.free D0) (af.free hD r1.rs) (af.rs.hd D0 hh).1.1 (fun z => z.2 rfl) (fun k hk => (af.rs.hd D0 hh).2 k hk) hD' ?_⟩
      exact RVs.mono (H := H') (H' := H') (J := J') (J' := J'.free D0) (fun b o e n => ⟨e, n⟩) ⟨Nat.le_refl _, fun _ _ => rfl⟩ _ _ hv
    · exact absurd hr.symm nb
theorem f_cmpX {elt iter : Expr} {ifs : List Expr} {scope : Scope} {own : List (Str × Nat)} {src : MP.Src} {tgm : MP.Tg} {t : MP.T} {m : MP.E} (hst : X.stack = X.env :: X.outer) (hf : X.env.frame = some X.env.locals) (tk : Takes X W) (hc : X.calm = true) (hN : X.N.Nodup) (hi : PI X tg iter (tI c W src)) (ok : BlkOk X.N X.env.scope scope own) (hin : ∀ i ∈ Tg.ids tgm, i ∈ own.map (·.2))
    (hg : ∀ (s : Shared) (H : Hp) (C : Addr) (cl : List (Str × Addr)) (fp : List Addr) (xe : Value → Shared → Prop), PG (X.blx s H scope (compEnvC scope cl C X.env) fp xe) tg (gT c tgm)) (ht : ∀ (s : Shared) (H : Hp) (C : Addr) (cl : List (Str × Addr)) (fp : List Addr) (xe : Value → Shared → Prop), PTs (X.blx s H scope (compEnvC scope cl C X.env) fp xe) ifs (tT c W0 t))
    (he : ∀ (s : Shared) (H : Hp) (C : Addr) (cl : List (Str × Addr)) (fp : List Addr) (xe : Value → Shared → Prop) (W' : WX), Takes (X.blx s H scope (compEnvC scope cl C X.env) fp xe) W' → PE (X.blx s H scope (compEnvC scope cl C X.env) fp xe) elt (tM c W' m)) (hs : ∀ x, foldedSetIterable iter X.env x = pure x := by intro _; rfl) :
    PE X (.ListComp elt [⟨tg, iter, ifs, 0⟩] scope pos) (tF c W (MP.cmpXF src tgm t m (own.map (·.2)))) := pe_imp (pe_lcx hst hf tk hc hN hi ok hg ht (fun s H C cl fp xe σ t => he s H C cl fp xe _ t) hs) fun σ H Q h => cmpX_lc hin h
end
end MS
namespace K06
open MP (Sy D Cn Ob Sto R En bd pu no rz nx LIM)
open MP (nthB)
def kb_LotError : List Bool := [true, true, true, true, true, true, true, true, true, true, true, true, true, true, true, true, true, true, true, true]
def kb_Missing : List Bool := [false, false, false, false, false, false, false, false, false, false, false, false, false, false, false, false, false, false, false, false]
def kb_NothingLeft : List Bool := [false, false, false, false, false, false, false, false, false, false, false, false, false, false, false, false, false, false, false, false]
def kb_BadLot : List Bool := [true, true, true, true, true, true, false, true, true, true, true, true, true, true, true, true, true, true, true, true]
def m__law_lot_text_c1 : MP.Es := (MP.cmpF (MP.seqS (MP.vE 0)) (.nm 1) MP.yes (MP.biE PL.m_row_text (MP.consA (MP.vE 1) MP.nilA)) [1])
def m__law_lot_text : List D → MP.M D := MP.fn 1 2
    (MP.retS (MP.joinE (MP.cE (.str [32])) (MP.frzE m__law_lot_text_c1)))
def m__law_read_b1 : MP.St := (MP.seq (MP.setS 5 (MP.andE (MP.vE 5) (MP.andE (MP.binE MP.eqO (MP.biE MP.lenO (MP.consA (MP.vE 3) MP.nilA)) (MP.biE MP.lenO (MP.consA (MP.binE MP.idxO (MP.vE 1) (MP.cE (.int 0))) MP.nilA))) (MP.binE MP.gtO (MP.biE MP.sumO (MP.consA (MP.vE 3) MP.nilA)) (MP.cE (.int 0))))))
    (MP.setS 5 (MP.andE (MP.vE 5) (MP.andE (MP.binE MP.geO (MP.biE MP.minO (MP.consA (MP.vE 3) MP.nilA)) (MP.cE (.int 0))) (MP.binE MP.leO (MP.biE MP.maxO (MP.consA (MP.vE 3) MP.nilA)) (MP.cE (.int 6)))))))
def m__law_read_c1 : MP.Es := (MP.cmpF (MP.seqS (MP.frzE (MP.splF (MP.vE 2) (MP.cE (.str [44]))))) (.nm 4) MP.yes (MP.biE PL.m__law_number_in (MP.consA (MP.vE 4) MP.nilA)) [4])
def m__law_read_b2 : MP.St := (MP.seq (MP.setS 3 (MP.frzE m__law_read_c1))
    (MP.seq (MP.ifS (MP.tb (MP.binE MP.inO (MP.cE .non) (MP.vE 3))) (MP.retS (MP.tupE (MP.consA (MP.cE .non) (MP.consA (MP.cE (.str [98, 97, 100, 32, 116, 101, 120, 116])) MP.nilA)))) MP.nxS)
    (MP.exprS (MP.appE (MP.vE 1) (MP.biE MP.tupleO (MP.consA (MP.vE 3) MP.nilA))))))
def m__law_read : List D → MP.M D := MP.fn 1 6
    (MP.seq (MP.setS 1 (MP.newE (MP.lstF MP.nilA)))
    (MP.seq (MP.forS (MP.seqS (MP.frzE (MP.splF (MP.vE 0) (MP.cE (.str [32]))))) (.nm 2) m__law_read_b2)
    (MP.seq (MP.setS 5 (MP.andE (MP.binE MP.leO (MP.biE MP.lenO (MP.consA (MP.vE 1) MP.nilA)) (MP.cE (.int 5))) (MP.binE MP.leO (MP.biE MP.lenO (MP.consA (MP.binE MP.idxO (MP.vE 1) (MP.cE (.int 0))) MP.nilA)) (MP.cE (.int 3)))))
    (MP.seq (MP.forS (MP.seqS (MP.vE 1)) (.nm 3) m__law_read_b1)
    (MP.retS (MP.ifE (MP.tst (MP.vE 5)) (MP.tupE (MP.consA (MP.biE MP.tupleO (MP.consA (MP.vE 1) MP.nilA)) (MP.consA (MP.cE (.str [])) MP.nilA))) (MP.tupE (MP.consA (MP.cE .non) (MP.consA (MP.cE (.str [98, 97, 100, 32, 108, 111, 116])) MP.nilA)))))))))
def b__law_word (act : MP.M D) : MP.St := (MP.seq (MP.setS 1 (MP.cE (.str [])))
    (MP.seq (MP.setS 2 (MP.cE .non))
    (MP.seq (MP.tryS (MP.setS 2 (MP.actE act 0)) [⟨nthB kb_LotError, some 3, fun ns vs => (MP.setS 1 (MP.xfE ns vs 3 [119, 111, 114, 100]))⟩, ⟨nthB kb_Missing, some 3, fun ns vs => (MP.setS 1 (MP.xfE ns vs 3 [119, 111, 114, 100]))⟩, ⟨nthB kb_NothingLeft, some 3, fun ns vs => (MP.setS 1 (MP.xfE ns vs 3 [119, 111, 114, 100]))⟩])
    (MP.retS (MP.tupE (MP.consA (MP.vE 2) (MP.consA (MP.vE 1) MP.nilA)))))))
def m_read_lot_c1 : MP.Es := (MP.cmpXF (MP.seqS (MP.frzE (MP.splF (MP.vE 0) (MP.cE (.str [32]))))) (.nm 2) MP.yes (MP.biE PL.m_read_row (MP.consA (MP.vE 2) MP.nilA)) [2])
def m_read_lot : List D → MP.M D := MP.fn 1 3
    (MP.seq (MP.setS 1 (MP.biE MP.tupleO (MP.consA (MP.frzE m_read_lot_c1) MP.nilA)))
    (MP.seq (MP.exprS (MP.biE PL.m_look_lot (MP.consA (MP.vE 1) MP.nilA)))
    (MP.retS (MP.vE 1))))
def m__law_kind : List D → MP.M D := MP.fn 1 3
    (MP.seq (MP.setS 1 (MP.cE (.str [110, 111, 110, 101])))
    (MP.seq (MP.tryS (MP.exprS (MP.biE K06.m_read_lot (MP.consA (MP.vE 0) MP.nilA))) [⟨nthB kb_BadLot, some 2, fun ns vs => (MP.setS 1 (MP.xfE ns vs 2 [107, 105, 110, 100]))⟩])
    (MP.retS (MP.vE 1))))
def m__law_flaw_c1 : MP.Es := (MP.cmpF (MP.seqS (MP.binE MP.idxO (MP.vE 1) (MP.vE 3))) (.nm 2) MP.yes (MP.biE MP.intxO (MP.consA (MP.vE 2) MP.nilA)) [2])
def m__law_flaw_b1 : MP.St := (MP.seq (MP.setS 4 (MP.frzE m__law_flaw_c1))
    (MP.ifS (MP.orT (MP.tb (MP.binE MP.neO (MP.biE MP.lenO (MP.consA (MP.vE 4) MP.nilA)) (MP.biE MP.lenO (MP.consA (MP.binE MP.idxO (MP.vE 1) (MP.cE (.int 0))) MP.nilA)))) (MP.orT (MP.tb (MP.binE MP.eqO (MP.biE MP.sumO (MP.consA (MP.vE 4) MP.nilA)) (MP.cE (.int 0)))) (MP.orT (MP.tb (MP.binE MP.ltO (MP.biE MP.minO (MP.consA (MP.vE 4) MP.nilA)) (MP.cE (.int 0)))) (MP.tb (MP.binE MP.gtO (MP.biE MP.maxO (MP.consA (MP.vE 4) MP.nilA)) (MP.cE (.int 6))))))) (MP.retS (MP.vE 3)) MP.nxS))
def m__law_flaw_c2 : MP.Es := (MP.cmpF (MP.seqS (MP.frzE (MP.splF (MP.vE 0) (MP.cE (.str [32]))))) (.nm 2) MP.yes (MP.frzE (MP.splF (MP.vE 2) (MP.cE (.str [44])))) [2])
def m__law_flaw : List D → MP.M D := MP.fn 1 5
    (MP.seq (MP.setS 1 (MP.frzE m__law_flaw_c2))
    (MP.seq (MP.ifS (MP.orT (MP.tb (MP.binE MP.gtO (MP.biE MP.lenO (MP.consA (MP.vE 1) MP.nilA)) (MP.cE (.int 5)))) (MP.tb (MP.binE MP.gtO (MP.biE MP.lenO (MP.consA (MP.binE MP.idxO (MP.vE 1) (MP.cE (.int 0))) MP.nilA)) (MP.cE (.int 3))))) (MP.retS (MP.unE MP.negO (MP.cE (.int 1)))) MP.nxS)
    (MP.seq (MP.forS (MP.rng1 (MP.biE MP.lenO (MP.consA (MP.vE 1) MP.nilA))) (.nm 3) m__law_flaw_b1)
    (MP.retS (MP.cE .non)))))
def m_law_b1 : MP.St := (MP.seq (MP.setS 3 (MP.biE PL.m__law_any_lot (MP.consA (MP.vE 1) MP.nilA)))
    (MP.seq (MP.setS 4 (MP.biE K06.m__law_lot_text (MP.consA (MP.vE 3) MP.nilA)))
    (MP.seq (MP.ifS (MP.notT (MP.tst (MP.biE (PL.m__law_same 8) (MP.consA (MP.frzE (MP.lstF (MP.consA (MP.biE PL.m_lot_text (MP.consA (MP.vE 3) MP.nilA)) (MP.consA (MP.biE K06.m_read_lot (MP.consA (MP.vE 4) MP.nilA)) MP.nilA)))) (MP.consA (MP.frzE (MP.lstF (MP.consA (MP.vE 4) (MP.consA (MP.vE 3) MP.nilA)))) MP.nilA))))) (MP.retS (MP.cE (.bl false))) MP.nxS)
    (MP.seq (MP.setS 5 (MP.biE PL.m__law_draw (MP.consA (MP.vE 1) (MP.consA (MP.binE MP.addO (MP.biE MP.lenO (MP.consA (MP.vE 4) MP.nilA)) (MP.cE (.int 1))) MP.nilA))))
    (MP.seq (MP.setS 6 (MP.biE PL.m__law_pick (MP.consA (MP.vE 1) (MP.consA (MP.frzE (MP.lstF (MP.consA (MP.cE (.str [48])) (MP.consA (MP.cE (.str [49])) (MP.consA (MP.cE (.str [45])) (MP.consA (MP.cE (.str [44])) (MP.consA (MP.cE (.str [32])) (MP.consA (MP.cE (.str [55])) (MP.consA (MP.cE (.str [97])) MP.nilA))))))))) MP.nilA))))
    (MP.seq (MP.setS 7 (MP.newE (MP.splF (MP.vE 4) (MP.cE (.str [32])))))
    (MP.seq (MP.setS 8 (MP.biE PL.m__law_draw (MP.consA (MP.vE 1) (MP.consA (MP.biE MP.lenO (MP.consA (MP.vE 7) MP.nilA)) MP.nilA))))
    (MP.seq (MP.setS 9 (MP.newE (MP.lstF (MP.consA (MP.binE MP.addO (MP.binE MP.addO (MP.slcE (MP.vE 4) none (some (MP.vE 5))) (MP.vE 6)) (MP.slcE (MP.vE 4) (some (MP.vE 5)) none)) (MP.consA (MP.binE MP.addO (MP.slcE (MP.vE 4) none (some (MP.vE 5))) (MP.slcE (MP.vE 4) (some (MP.binE MP.addO (MP.vE 5) (MP.cE (.int 1)))) none)) MP.nilA)))))
    (MP.seq (MP.exprS (MP.appE (MP.vE 9) (MP.binE MP.addO (MP.binE MP.addO (MP.slcE (MP.vE 4) none (some (MP.vE 5))) (MP.vE 6)) (MP.slcE (MP.vE 4) (some (MP.binE MP.addO (MP.vE 5) (MP.cE (.int 1)))) none))))
    (MP.seq (MP.setS 10 (MP.newE (MP.catF (MP.newE (MP.slcF (MP.vE 7) none (some (MP.vE 8)))) (MP.newE (MP.slcF (MP.vE 7) (some (MP.vE 8)) (some (MP.binE MP.addO (MP.vE 8) (MP.cE (.int 1)))))))))
    (MP.seq (MP.exprS (MP.appE (MP.vE 9) (MP.joinE (MP.cE (.str [32])) (MP.frzE (MP.catF (MP.vE 10) (MP.newE (MP.slcF (MP.vE 7) (some (MP.vE 8)) none)))))))
    (MP.seq (MP.exprS (MP.appE (MP.vE 9) (MP.joinE (MP.cE (.str [32])) (MP.frzE (MP.catF (MP.newE (MP.slcF (MP.vE 7) none (some (MP.vE 8)))) (MP.newE (MP.slcF (MP.vE 7) (some (MP.binE MP.addO (MP.vE 8) (MP.cE (.int 1)))) none)))))))
    (MP.seq (MP.exprS (MP.appE (MP.vE 9) (MP.joinE (MP.cE (.str [32])) (MP.frzE (MP.revF (MP.vE 7))))))
    (MP.seq (MP.setS 11 (MP.binE MP.idxO (MP.vE 9) (MP.biE PL.m__law_draw (MP.consA (MP.vE 1) (MP.consA (MP.cE (.int 6)) MP.nilA)))))
    (MP.seq (MP.setS 12 (MP.biE K06.m__law_read (MP.consA (MP.vE 11) MP.nilA)))
    (MP.seq (MP.ifS (MP.notT (MP.tst (MP.biE (PL.m__law_same 8) (MP.consA (MP.lamE (MP.fnL 4 b__law_word) (MP.cakE (fun _ => K06.m_read_lot) 0 (fun a k => MP.arr [(2, 0)] a [] k) MP.nilA (MP.consA (MP.vE 11) MP.nilA))) (MP.consA (MP.vE 12) MP.nilA))))) (MP.retS (MP.cE (.bl false))) MP.nxS)
    (MP.ifS (MP.andT (MP.tb (MP.binE MP.eqO (MP.binE MP.idxO (MP.vE 12) (MP.cE (.int 1))) (MP.cE (.str [98, 97, 100, 32, 108, 111, 116])))) (MP.notT (MP.tst (MP.biE (PL.m__law_same 8) (MP.consA (MP.biE K06.m__law_kind (MP.consA (MP.vE 11) MP.nilA)) (MP.consA (MP.biE K06.m__law_flaw (MP.consA (MP.vE 11) MP.nilA)) MP.nilA)))))) (MP.retS (MP.cE (.bl false))) MP.nxS)))))))))))))))))
def m_law : List D → MP.M D := MP.fn 1 13
    (MP.seq (MP.setS 1 (MP.biE PL.m__law_feed (MP.consA (MP.vE 0) MP.nilA)))
    (MP.seq (MP.forS (MP.rng1 (MP.cE (.int 5))) (.nm 2) m_law_b1)
    (MP.seq (MP.setS 7 (MP.newE (MP.lstF (MP.consA (MP.lamE (MP.fnL 4 b__law_word) (MP.biE K06.m_read_lot (MP.consA (MP.cE (.str [49, 32, 49, 32, 49, 32, 49, 32, 49, 32, 49, 32, 120])) MP.nilA))) MP.nilA))))
    (MP.seq (MP.exprS (MP.appE (MP.vE 7) (MP.lamE (MP.fnL 4 b__law_word) (MP.biE K06.m_read_lot (MP.consA (MP.cE (.str [55, 32, 48, 44])) MP.nilA)))))
    (MP.seq (MP.exprS (MP.appE (MP.vE 7) (MP.lamE (MP.fnL 4 b__law_word) (MP.biE K06.m_read_lot (MP.consA (MP.cE (.str [48, 32, 45, 48])) MP.nilA)))))
    (MP.retS (MP.andE (MP.binE MP.eqO (MP.vE 7) (MP.frzE (MP.repF (MP.newE (MP.lstF (MP.consA (MP.tupE (MP.consA (MP.cE .non) (MP.consA (MP.cE (.str [98, 97, 100, 32, 116, 101, 120, 116])) MP.nilA))) MP.nilA))) (MP.cE (.int 3))))) (MP.binE MP.eqO (MP.lamE (MP.fnL 4 b__law_word) (MP.biE PL.m_lot_text (MP.consA (MP.tupE (MP.consA (MP.tupE (MP.consA (MP.cE (.int 0)) MP.nilA)) MP.nilA)) MP.nilA))) (MP.tupE (MP.consA (MP.cE .non) (MP.consA (MP.cE (.str [98, 97, 100, 32, 108, 111, 116])) MP.nilA)))))))))))
end K06
namespace K06
open PySem PySem.Spec PyProof.Rows L2 MS
open MP (Sy D Cn Ob Sto R En bd pu no rz nx LIM)
open He (ga ma fAd Fa DefD)
def top (i : Nat) : Stmt := PySem.Challenge.pw_hamperlot_k06_lots_written_and_read.main.body.getD i (.Pass ⟨0, 0, 0, 0⟩)
abbrev s__law_feed : Stmt := top 23
theorem sc__law_feed : FnScope ["_law_script"] ["_law_script"] (defScope s__law_feed) := ⟨rfl, rfl, rfl, by decide +kernel, rfl, by decide +kernel, by decide +kernel⟩
abbrev s__law_draw : Stmt := top 24
theorem sc__law_draw : FnScope ["_law_feed_here", "_law_many", "_law_cell", "_law_digit", "_law_mix"] ["_law_feed_here", "_law_many"] (defScope s__law_draw) := ⟨rfl, rfl, rfl, by decide +kernel, rfl, by decide +kernel, by decide +kernel⟩
abbrev s__law_hold : Stmt := top 28
theorem sc__law_hold : FnScope ["_law_feed_here", "_law_goods", "_law_most", "_law_hold_here", "_law_good"] ["_law_feed_here", "_law_goods", "_law_most"] (defScope s__law_hold) := ⟨rfl, rfl, rfl, by decide +kernel, rfl, by decide +kernel, by decide +kernel⟩
abbrev s__law_lot : Stmt := top 29
theorem sc__law_lot : FnScope ["_law_feed_here", "_law_goods", "_law_kinds", "_law_most", "_law_kind_here"] ["_law_feed_here", "_law_goods", "_law_kinds", "_law_most"] (defScope s__law_lot) := ⟨rfl, rfl, rfl, by decide +kernel, rfl, by decide +kernel, by decide +kernel⟩
abbrev s__law_pick : Stmt := top 25
theorem sc__law_pick : FnScope ["_law_feed_here", "_law_row"] ["_law_feed_here", "_law_row"] (defScope s__law_pick) := ⟨rfl, rfl, rfl, by decide +kernel, rfl, by decide +kernel, by decide +kernel⟩
abbrev s__law_any_lot : Stmt := top 30
theorem sc__law_any_lot : FnScope ["_law_feed_here"] ["_law_feed_here"] (defScope s__law_any_lot) := ⟨rfl, rfl, rfl, by decide +kernel, rfl, by decide +kernel, by decide +kernel⟩
abbrev s__law_row_text : Stmt := top 31
theorem sc__law_row_text : FnScope ["_law_row", "_law_number"] ["_law_row"] (defScope s__law_row_text) := ⟨rfl, rfl, rfl, by decide +kernel, rfl, by decide +kernel, by decide +kernel⟩
abbrev s__law_lot_text : Stmt := top 32
theorem sc__law_lot_text : FnScope ["_law_lot_here", "_law_hold_here"] ["_law_lot_here"] (defScope s__law_lot_text) := ⟨rfl, rfl, rfl, by decide +kernel, rfl, by decide +kernel, by decide +kernel⟩
abbrev s__law_number_in : Stmt := top 33
theorem sc__law_number_in : FnScope ["_law_word_here", "_law_figures", "_law_sign"] ["_law_word_here"] (defScope s__law_number_in) := ⟨rfl, rfl, rfl, by decide +kernel, rfl, by decide +kernel, by decide +kernel⟩
abbrev s__law_read : Stmt := top 34
theorem sc__law_read : FnScope ["_law_mtext", "_law_rows", "_law_word_here", "_law_row", "_law_one", "_law_good"] ["_law_mtext"] (defScope s__law_read) := ⟨rfl, rfl, rfl, by decide +kernel, rfl, by decide +kernel, by decide +kernel⟩
abbrev s__law_same : Stmt := top 26
theorem sc__law_same : FnScope ["_law_found", "_law_due", "_law_key", "_law_at"] ["_law_found", "_law_due"] (defScope s__law_same) := ⟨rfl, rfl, rfl, by decide +kernel, rfl, by decide +kernel, by decide +kernel⟩
abbrev s__law_word : Stmt := top 27
theorem sc__law_word : FnScope ["_law_ask", "_law_word_here", "_law_answer", "e"] ["_law_ask"] (defScope s__law_word) := ⟨rfl, rfl, rfl, by decide +kernel, rfl, by decide +kernel, by decide +kernel⟩
abbrev s_is_number : Stmt := top 7
theorem sc_is_number : FnScope ["thing", "low", "high"] ["thing", "low", "high"] (defScope s_is_number) := ⟨rfl, rfl, rfl, by decide +kernel, rfl, by decide +kernel, by decide +kernel⟩
abbrev s_is_hold : Stmt := top 12
theorem sc_is_hold : FnScope ["hold", "goods", "amount"] ["hold", "goods"] (defScope s_is_hold) := ⟨rfl, rfl, rfl, by decide +kernel, rfl, by decide +kernel, by decide +kernel⟩
abbrev s_look_lot : Stmt := top 13
theorem sc_look_lot : FnScope ["lot", "kind", "hold"] ["lot"] (defScope s_look_lot) := ⟨rfl, rfl, rfl, by decide +kernel, rfl, by decide +kernel, by decide +kernel⟩
abbrev s_row_text : Stmt := top 16
theorem sc_row_text : FnScope ["row", "number"] ["row"] (defScope s_row_text) := ⟨rfl, rfl, rfl, by decide +kernel, rfl, by decide +kernel, by decide +kernel⟩
abbrev s_lot_text : Stmt := top 17
theorem sc_lot_text : FnScope ["lot", "hold"] ["lot"] (defScope s_lot_text) := ⟨rfl, rfl, rfl, by decide +kernel, rfl, by decide +kernel, by decide +kernel⟩
abbrev s_is_figures : Stmt := top 18
theorem sc_is_figures : FnScope ["text", "sign"] ["text"] (defScope s_is_figures) := ⟨rfl, rfl, rfl, by decide +kernel, rfl, by decide +kernel, by decide +kernel⟩
abbrev s_number_in : Stmt := top 19
theorem sc_number_in : FnScope ["text", "figures"] ["text"] (defScope s_number_in) := ⟨rfl, rfl, rfl, by decide +kernel, rfl, by decide +kernel, by decide +kernel⟩
abbrev s_read_row : Stmt := top 20
theorem sc_read_row : FnScope ["text", "row", "word"] ["text"] (defScope s_read_row) := ⟨rfl, rfl, rfl, by decide +kernel, rfl, by decide +kernel, by decide +kernel⟩
abbrev s_read_lot : Stmt := top 21
theorem sc_read_lot : FnScope ["text", "found", "word"] ["text"] (defScope s_read_lot) := ⟨rfl, rfl, rfl, by decide +kernel, rfl, by decide +kernel, by decide +kernel⟩
abbrev s__law_kind : Stmt := top 36
theorem sc__law_kind : FnScope ["_law_mtext", "_law_kind_here", "e"] ["_law_mtext"] (defScope s__law_kind) := ⟨rfl, rfl, rfl, by decide +kernel, rfl, by decide +kernel, by decide +kernel⟩
abbrev s__law_flaw : Stmt := top 35
theorem sc__law_flaw : FnScope ["_law_mtext", "_law_rows", "_law_word_here", "_law_kind_here", "_law_numbers"] ["_law_mtext"] (defScope s__law_flaw) := ⟨rfl, rfl, rfl, by decide +kernel, rfl, by decide +kernel, by decide +kernel⟩
abbrev s_law : Stmt := top 37
theorem sc_law : FnScope ["_law_script", "_law_feed_here", "_law_turn", "_law_lot_here", "_law_mtext", "_law_at", "_law_sign", "_law_words", "_law_spot", "_law_some", "_law_more", "_law_bent", "_law_due"] ["_law_script"] (defScope s_law) := ⟨rfl, rfl, rfl, by decide +kernel, rfl, by decide +kernel, by decide +kernel⟩
def dd__law_feed : DefD := ⟨("_law_feed", none), "_law_feed", "_law_feed", defArgs s__law_feed, defBody s__law_feed, defScope s__law_feed, [], []⟩
def dd__law_draw : DefD := ⟨("_law_draw", none), "_law_draw", "_law_draw", defArgs s__law_draw, defBody s__law_draw, defScope s__law_draw, [], []⟩
def dd__law_hold : DefD := ⟨("_law_hold", none), "_law_hold", "_law_hold", defArgs s__law_hold, defBody s__law_hold, defScope s__law_hold, [], []⟩
def dd__law_lot : DefD := ⟨("_law_lot", none), "_law_lot", "_law_lot", defArgs s__law_lot, defBody s__law_lot, defScope s__law_lot, [], []⟩
def dd__law_pick : DefD := ⟨("_law_pick", none), "_law_pick", "_law_pick", defArgs s__law_pick, defBody s__law_pick, defScope s__law_pick, [], []⟩
def dd__law_any_lot : DefD := ⟨("_law_any_lot", none), "_law_any_lot", "_law_any_lot", defArgs s__law_any_lot, defBody s__law_any_lot, defScope s__law_any_lot, [], []⟩
def dd__law_row_text : DefD := ⟨("_law_row_text", none), "_law_row_text", "_law_row_text", defArgs s__law_row_text, defBody s__law_row_text, defScope s__law_row_text, [], []⟩
def dd__law_lot_text : DefD := ⟨("_law_lot_text", none), "_law_lot_text", "_law_lot_text", defArgs s__law_lot_text, defBody s__law_lot_text, defScope s__law_lot_text, [], []⟩
def dd__law_number_in : DefD := ⟨("_law_number_in", none), "_law_number_in", "_law_number_in", defArgs s__law_number_in, defBody s__law_number_in, defScope s__law_number_in, [], []⟩
def dd__law_read : DefD := ⟨("_law_read", none), "_law_read", "_law_read", defArgs s__law_read, defBody s__law_read, defScope s__law_read, [], []⟩
def dd__law_same : DefD := ⟨("_law_same", none), "_law_same", "_law_same", defArgs s__law_same, defBody s__law_same, defScope s__law_same, [], []⟩
def dd__law_word : DefD := ⟨("_law_word", none), "_law_word", "_law_word", defArgs s__law_word, defBody s__law_word, defScope s__law_word, [], []⟩
def dd_is_number : DefD := ⟨("is_number", none), "is_number", "is_number", defArgs s_is_number, defBody s_is_number, defScope s_is_number, [], []⟩
def dd_is_hold : DefD := ⟨("is_hold", none), "is_hold", "is_hold", defArgs s_is_hold, defBody s_is_hold, defScope s_is_hold, [], []⟩
def dd_look_lot : DefD := ⟨("look_lot", none), "look_lot", "look_lot", defArgs s_look_lot, defBody s_look_lot, defScope s_look_lot, [], []⟩
def dd_row_text : DefD := ⟨("row_text", none), "row_text", "row_text", defArgs s_row_text, defBody s_row_text, defScope s_row_text, [], []⟩
def dd_lot_text : DefD := ⟨("lot_text", none), "lot_text", "lot_text", defArgs s_lot_text, defBody s_lot_text, defScope s_lot_text, [], []⟩
def dd_is_figures : DefD := ⟨("is_figures", none), "is_figures", "is_figures", defArgs s_is_figures, defBody s_is_figures, defScope s_is_figures, [], []⟩
def dd_number_in : DefD := ⟨("number_in", none), "number_in", "number_in", defArgs s_number_in, defBody s_number_in, defScope s_number_in, [], []⟩
def dd_read_row : DefD := ⟨("read_row", none), "read_row", "read_row", defArgs s_read_row, defBody s_read_row, defScope s_read_row, [], []⟩
def dd_read_lot : DefD := ⟨("read_lot", none), "read_lot", "read_lot", defArgs s_read_lot, defBody s_read_lot, defScope s_read_lot, [], []⟩
def dd__law_kind : DefD := ⟨("_law_kind", none), "_law_kind", "_law_kind", defArgs s__law_kind, defBody s__law_kind, defScope s__law_kind, [], []⟩
def dd__law_flaw : DefD := ⟨("_law_flaw", none), "_law_flaw", "_law_flaw", defArgs s__law_flaw, defBody s__law_flaw, defScope s__law_flaw, [], []⟩
def dd_law : DefD := ⟨("law", none), "law", "law", defArgs s_law, defBody s_law, defScope s_law, [], []⟩
abbrev si_BadLot : Stmt := inClass (top 4) 0
theorem sci_BadLot : FnScope ["self", "kind"] ["self", "kind"] (defScope si_BadLot) := ⟨rfl, rfl, rfl, by decide +kernel, rfl, by decide +kernel, by decide +kernel⟩
def dx_BadLot : DefD := ⟨("BadLot", some "__init__"), "__init__", "BadLot.__init__", defArgs si_BadLot, defBody si_BadLot, defScope si_BadLot, [], []⟩
abbrev si_BadText : Stmt := inClass (top 5) 0
theorem sci_BadText : FnScope ["self", "at"] ["self", "at"] (defScope si_BadText) := ⟨rfl, rfl, rfl, by decide +kernel, rfl, by decide +kernel, by decide +kernel⟩
def dx_BadText : DefD := ⟨("BadText", some "__init__"), "__init__", "BadText.__init__", defArgs si_BadText, defBody si_BadText, defScope si_BadText, [], []⟩
def fn : List DefD := [dd__law_feed, dd__law_draw, dd__law_hold, dd__law_lot, dd__law_pick, dd__law_any_lot, dd__law_row_text, dd__law_lot_text, dd__law_number_in, dd__law_read, dd__law_same, dd__law_word, dd_is_number, dd_is_hold, dd_look_lot, dd_row_text, dd_lot_text, dd_is_figures, dd_number_in, dd_read_row, dd_read_lot, dd__law_kind, dd__law_flaw, dd_law, dx_BadLot, dx_BadText]
def cls : List Str := ["BadLot", "BadLot", "BadLot", "BadLot", "BadLot", "BadLot", "BadText", "BadLot", "BadLot", "BadLot", "BadLot", "BadLot", "BadLot", "BadLot", "BadLot", "BadLot", "BadLot", "BadLot", "BadLot", "BadLot"]
def flds : List Str := ["at", "kind", "word"]
abbrev tabs (K : PySem.W.Frag) : List (Addr × Str) := [((He.cT K ("law", none)).2, (("law" : Str) ++ ".<locals>.") ++ "<lambda>")]
def cs (K : PySem.W.Frag) : List (Addr × Addr) := [He.cT K ("law", none)]
def ex (K : PySem.W.Frag) : Bool := clsGB K cls flds && (exmB K cls "LotError" kb_LotError && (exmB K cls "Missing" kb_Missing && (exmB K cls "NothingLeft" kb_NothingLeft && (exmB K cls "BadLot" kb_BadLot && (decide ((tabs K).map (·.1)).Nodup)))))
def fa : List Fa := [.free "list", .free "len", .free "tuple", .free "sum", .free "range", .free "str", .free "int", .free "all", .free "max", .free "min", .free "isinstance", .free "dict", .free "bool", .glo "NothingLeft", .glo "Missing", .glo "LotError", .int "MOST_HOLD" 6, .free "enumerate", .int "MOST_GOODS" 3, .int "MOST_KINDS" 5, .int "MOST_FIGURES" 30, .glo "BadLot", .glo "_law_word", .glo "BadText", .glo "_law_feed", .glo "_law_draw", .glo "_law_hold", .glo "_law_lot", .glo "_law_pick", .glo "_law_any_lot", .glo "_law_row_text", .glo "_law_lot_text", .glo "_law_number_in", .glo "_law_read", .glo "_law_same", .glo "is_number", .glo "is_hold", .glo "look_lot", .glo "row_text", .glo "lot_text", .glo "is_figures", .glo "number_in", .glo "read_row", .glo "read_lot", .glo "_law_kind", .glo "_law_flaw", .glo "law"]
def ct (K : PySem.W.Frag) : Ct := ⟨K, fun k => ga K (nth cls k), tabs K, none, none⟩
section
variable {P : Program} {w : World} {K : PySem.W.Frag} {mg : Str → Option Value} {base : Heap}
abbrev Tx (K : PySem.W.Frag) (mg : Str → Option Value) : Prop := Mo fa fn ex K mg
abbrev Tb (K : PySem.W.Frag) (mg : Str → Option Value) (base : Heap) : Prop := ∀ p ∈ cs K, LamX.TabB base mg p.1 p.2
theorem xc (T : Tx K mg) (k : Nat) : ExG K (nth cls k) flds ∧ XfC K (ga K (nth cls k)) := clsG_at (He.ba T.more).1 (List.cons_ne_nil _ _) k
theorem xm_LotError (T : Tx K mg) (k : Nat) : PySem.W.exmOne K (.ref (ga K (nth cls k))) (.ref (ga K "LotError")) = some (MP.nthB kb_LotError k) := exm_at (He.ba (He.ba T.more).2).1 k
theorem xm_Missing (T : Tx K mg) (k : Nat) : PySem.W.exmOne K (.ref (ga K (nth cls k))) (.ref (ga K "Missing")) = some (MP.nthB kb_Missing k) := exm_at (He.ba (He.ba (He.ba T.more).2).2).1 k
theorem xm_NothingLeft (T : Tx K mg) (k : Nat) : PySem.W.exmOne K (.ref (ga K (nth cls k))) (.ref (ga K "NothingLeft")) = some (MP.nthB kb_NothingLeft k) := exm_at (He.ba (He.ba (He.ba (He.ba T.more).2).2).2).1 k
theorem xm_BadLot (T : Tx K mg) (k : Nat) : PySem.W.exmOne K (.ref (ga K (nth cls k))) (.ref (ga K "BadLot")) = some (MP.nthB kb_BadLot k) := exm_at (He.ba (He.ba (He.ba (He.ba (He.ba T.more).2).2).2).2).1 k
theorem ndT (T : Tx K mg) : ((tabs K).map (·.1)).Nodup := of_decide_eq_true (He.ba (He.ba (He.ba (He.ba (He.ba T.more).2).2).2).2).2
theorem hm_law : ((He.cT K ("law", none)).2, (("law" : Str) ++ ".<locals>.") ++ "<lambda>") ∈ tabs K := .head _
theorem hc_law : He.cT K ("law", none) ∈ cs K := .head _
theorem F__law_feed (T : Tx K mg) : ∃ fd, FunD K "_law_feed" "_law_feed" (defArgs s__law_feed) (defBody s__law_feed) (defScope s__law_feed) [] [] (ga K "_law_feed") fd := T.def_ 0 (d := dd__law_feed) rfl
theorem F__law_draw (T : Tx K mg) : ∃ fd, FunD K "_law_draw" "_law_draw" (defArgs s__law_draw) (defBody s__law_draw) (defScope s__law_draw) [] [] (ga K "_law_draw") fd := T.def_ 1 (d := dd__law_draw) rfl
theorem F__law_hold (T : Tx K mg) : ∃ fd, FunD K "_law_hold" "_law_hold" (defArgs s__law_hold) (defBody s__law_hold) (defScope s__law_hold) [] [] (ga K "_law_hold") fd := T.def_ 2 (d := dd__law_hold) rfl
theorem F__law_lot (T : Tx K mg) : ∃ fd, FunD K "_law_lot" "_law_lot" (defArgs s__law_lot) (defBody s__law_lot) (defScope s__law_lot) [] [] (ga K "_law_lot") fd := T.def_ 3 (d := dd__law_lot) rfl
theorem F__law_pick (T : Tx K mg) : ∃ fd, FunD K "_law_pick" "_law_pick" (defArgs s__law_pick) (defBody s__law_pick) (defScope s__law_pick) [] [] (ga K "_law_pick") fd := T.def_ 4 (d := dd__law_pick) rfl
theorem F__law_any_lot (T : Tx K mg) : ∃ fd, FunD K "_law_any_lot" "_law_any_lot" (defArgs s__law_any_lot) (defBody s__law_any_lot) (defScope s__law_any_lot) [] [] (ga K "_law_any_lot") fd := T.def_ 5 (d := dd__law_any_lot) rfl
theorem F__law_row_text (T : Tx K mg) : ∃ fd, FunD K "_law_row_text" "_law_row_text" (defArgs s__law_row_text) (defBody s__law_row_text) (defScope s__law_row_text) [] [] (ga K "_law_row_text") fd := T.def_ 6 (d := dd__law_row_text) rfl
theorem F__law_lot_text (T : Tx K mg) : ∃ fd, FunD K "_law_lot_text" "_law_lot_text" (defArgs s__law_lot_text) (defBody s__law_lot_text) (defScope s__law_lot_text) [] [] (ga K "_law_lot_text") fd := T.def_ 7 (d := dd__law_lot_text) rfl
theorem F__law_number_in (T : Tx K mg) : ∃ fd, FunD K "_law_number_in" "_law_number_in" (defArgs s__law_number_in) (defBody s__law_number_in) (defScope s__law_number_in) [] [] (ga K "_law_number_in") fd := T.def_ 8 (d := dd__law_number_in) rfl
theorem F__law_read (T : Tx K mg) : ∃ fd, FunD K "_law_read" "_law_read" (defArgs s__law_read) (defBody s__law_read) (defScope s__law_read) [] [] (ga K "_law_read") fd := T.def_ 9 (d := dd__law_read) rfl
theorem F__law_same (T : Tx K mg) : ∃ fd, FunD K "_law_same" "_law_same" (defArgs s__law_same) (defBody s__law_same) (defScope s__law_same) [] [] (ga K "_law_same") fd := T.def_ 10 (d := dd__law_same) rfl
theorem F__law_word (T : Tx K mg) : ∃ fd, FunD K "_law_word" "_law_word" (defArgs s__law_word) (defBody s__law_word) (defScope s__law_word) [] [] (ga K "_law_word") fd := T.def_ 11 (d := dd__law_word) rfl
theorem F_is_number (T : Tx K mg) : ∃ fd, FunD K "is_number" "is_number" (defArgs s_is_number) (defBody s_is_number) (defScope s_is_number) [] [] (ga K "is_number") fd := T.def_ 12 (d := dd_is_number) rfl
theorem F_is_hold (T : Tx K mg) : ∃ fd, FunD K "is_hold" "is_hold" (defArgs s_is_hold) (defBody s_is_hold) (defScope s_is_hold) [] [] (ga K "is_hold") fd := T.def_ 13 (d := dd_is_hold) rfl
theorem F_look_lot (T : Tx K mg) : ∃ fd, FunD K "look_lot" "look_lot" (defArgs s_look_lot) (defBody s_look_lot) (defScope s_look_lot) [] [] (ga K "look_lot") fd := T.def_ 14 (d := dd_look_lot) rfl
theorem F_row_text (T : Tx K mg) : ∃ fd, FunD K "row_text" "row_text" (defArgs s_row_text) (defBody s_row_text) (defScope s_row_text) [] [] (ga K "row_text") fd := T.def_ 15 (d := dd_row_text) rfl
theorem F_lot_text (T : Tx K mg) : ∃ fd, FunD K "lot_text" "lot_text" (defArgs s_lot_text) (defBody s_lot_text) (defScope s_lot_text) [] [] (ga K "lot_text") fd := T.def_ 16 (d := dd_lot_text) rfl
theorem F_is_figures (T : Tx K mg) : ∃ fd, FunD K "is_figures" "is_figures" (defArgs s_is_figures) (defBody s_is_figures) (defScope s_is_figures) [] [] (ga K "is_figures") fd := T.def_ 17 (d := dd_is_figures) rfl
theorem F_number_in (T : Tx K mg) : ∃ fd, FunD K "number_in" "number_in" (defArgs s_number_in) (defBody s_number_in) (defScope s_number_in) [] [] (ga K "number_in") fd := T.def_ 18 (d := dd_number_in) rfl
theorem F_read_row (T : Tx K mg) : ∃ fd, FunD K "read_row" "read_row" (defArgs s_read_row) (defBody s_read_row) (defScope s_read_row) [] [] (ga K "read_row") fd := T.def_ 19 (d := dd_read_row) rfl
theorem F_read_lot (T : Tx K mg) : ∃ fd, FunD K "read_lot" "read_lot" (defArgs s_read_lot) (defBody s_read_lot) (defScope s_read_lot) [] [] (ga K "read_lot") fd := T.def_ 20 (d := dd_read_lot) rfl
theorem F__law_kind (T : Tx K mg) : ∃ fd, FunD K "_law_kind" "_law_kind" (defArgs s__law_kind) (defBody s__law_kind) (defScope s__law_kind) [] [] (ga K "_law_kind") fd := T.def_ 21 (d := dd__law_kind) rfl
theorem F__law_flaw (T : Tx K mg) : ∃ fd, FunD K "_law_flaw" "_law_flaw" (defArgs s__law_flaw) (defBody s__law_flaw) (defScope s__law_flaw) [] [] (ga K "_law_flaw") fd := T.def_ 22 (d := dd__law_flaw) rfl
theorem F_law (T : Tx K mg) : ∃ fd, FunD K "law" "law" (defArgs s_law) (defBody s_law) (defScope s_law) [] [] (ga K "law") fd := T.def_ 23 (d := dd_law) rfl
theorem Fx_BadLot (T : Tx K mg) : ∃ fd, FunD K "__init__" "BadLot.__init__" (defArgs si_BadLot) (defBody si_BadLot) (defScope si_BadLot) [] [] (ma K (ga K "BadLot") "__init__") fd := T.def_ 24 (d := dx_BadLot) rfl
theorem Fx_BadText (T : Tx K mg) : ∃ fd, FunD K "__init__" "BadText.__init__" (defArgs si_BadText) (defBody si_BadText) (defScope si_BadText) [] [] (ma K (ga K "BadText") "__init__") fd := T.def_ 25 (d := dx_BadText) rfl
theorem X_BadLot (T : Tx K mg) : OkxG P w K mg base (ct K) 0 "BadLot" "kind" "bad lot" "kind" := okxG_of (T.glo 21) rfl (xc T 0).1 (by decide) (by decide) (Fx_BadLot T) sci_BadLot (fun _ _ _ _ _ _ us hl => match us, hl with | [_, _], _ => rfl) (fun _ _ _ _ _ _ => pss_cons (ps_ostG (pv 0) pe_str) (pss_one (ps_ostG (pv 0) (pv 1))))
theorem X_BadText (T : Tx K mg) : OkxG P w K mg base (ct K) 6 "BadText" "at" "bad text" "at" := okxG_of (T.glo 23) rfl (xc T 6).1 (by decide) (by decide) (Fx_BadText T) sci_BadText (fun _ _ _ _ _ _ us hl => match us, hl with | [_, _], _ => rfl) (fun _ _ _ _ _ _ => pss_cons (ps_ostG (pv 0) pe_str) (pss_one (ps_ostG (pv 0) (pv 1))))
theorem G__law_feed (T : Tx K mg) (TB : Tb K mg base) : Okd P w K mg base (ct K) 1 "_law_feed" s__law_feed ["_law_script"] PL.m__law_feed := okd_of rfl rfl (T.glo 24) (F__law_feed T) sc__law_feed rfl rfl (fun _ _ _ _ _ _ us hl => match us, hl with | [_], _ => rfl) (fun cdv A outer s H E hcd hr =>
    (s_one (s_ret (e_new (f_lst (a_cons (e_frz (f_list rfl rfl (T.fr 0) (e_frz (f_slc rfl (e_v 0) o_none (o_some e_int))))) (a_cons e_int (a_cons e_int (a_cons e_int (a_cons e_int a_nil))))))))))
theorem G__law_draw (T : Tx K mg) (TB : Tb K mg base) : Okd P w K mg base (ct K) 1 "_law_draw" s__law_draw ["_law_feed_here", "_law_many"] PL.m__law_draw := okd_of rfl rfl (T.glo 25) (F__law_draw T) sc__law_draw rfl rfl (fun _ _ _ _ _ _ us hl => match us, hl with | [_, _], _ => rfl) (fun cdv A outer s H E hcd hr =>
    (s_cons (s_if (pt_w (w_and (t_cmp o_lt im_lt (e_idx rfl (e_v 0) e_int) (e_v 1) (by rfl)) (w_and1 (t_cmp o_lt im_lt (e_idx rfl (e_v 0) e_int) (e_len rfl rfl (T.fr 1) (e_idx rfl (e_v 0) e_int)) (by rfl))))) (s_cons (s_set 2 sc__law_draw.nd (e_idx rfl (e_idx rfl (e_v 0) e_int) (e_idx rfl (e_v 0) e_int)))
    (s_cons (s_put (e_v 0) e_int (e_add rfl (e_idx rfl (e_v 0) e_int) e_int))
    (s_cons (s_put (e_v 0) e_int e_int)
    (s_one (s_if (t_cmp op_ge im_ge (e_v 2) (e_pow e_int e_int) (by rfl)) (s_one (s_put (e_v 0) e_int (e_v 2))) (s_one (s_put (e_v 0) e_int (e_mod (e_add rfl (e_add rfl (e_mul rfl (e_idx rfl (e_v 0) e_int) e_int) (e_mul rfl (e_mod (e_v 2) e_int) e_int)) e_int) e_int)))))))) s_nil)
    (s_cons (s_if (t_cmp op_ge im_ge (e_idx rfl (e_v 0) e_int) (e_v 1) (by rfl)) (s_cons (s_set 3 sc__law_draw.nd (e_mod (e_idx rfl (e_v 0) e_int) (e_v 1)))
    (s_cons (s_put (e_v 0) e_int (e_fdiv (e_idx rfl (e_v 0) e_int) (e_v 1)))
    (s_one (s_ret (e_v 3))))) s_nil)
    (s_cons (s_put (e_v 0) e_int (e_add rfl (e_idx rfl (e_v 0) e_int) e_int))
    (s_cons (s_set 4 sc__law_draw.nd (e_idx rfl (e_v 0) e_int))
    (s_cons (s_set 4 sc__law_draw.nd (e_add rfl (e_add rfl (e_add rfl (e_mul rfl (e_mod (e_mul rfl (e_v 4) (e_v 4)) e_int) e_int) (e_mul rfl (e_v 4) e_int)) (e_mul rfl e_int (e_idx rfl (e_v 0) e_int))) e_int))
    (s_cons (s_put (e_v 0) e_int (e_mod (e_v 4) e_int))
    (s_one (s_ret (e_mod (e_add rfl (e_fdiv (e_idx rfl (e_v 0) e_int) e_int) (e_mul rfl (e_mod (e_idx rfl (e_v 0) e_int) e_int) e_int)) (e_v 1)))))))))))
theorem G__law_hold (T : Tx K mg) (TB : Tb K mg base) : Okd P w K mg base (ct K) 2 "_law_hold" s__law_hold ["_law_feed_here", "_law_goods", "_law_most"] PL.m__law_hold := okd_of rfl rfl (T.glo 26) (F__law_hold T) sc__law_hold rfl rfl (fun _ _ _ _ _ _ us hl => match us, hl with | [_, _, _], _ => rfl) (fun cdv A outer s H E hcd hr =>
    (s_cons (s_setCn 3 rfl sc__law_hold.nd (own := [("_law_good", 4)]) (blkOk_by (by rfl)) (s_rng1 rfl (T.fr 4) (e_v 1)) (by decide) (fun _ _ _ _ _ => (g_nm sc__law_hold.nd)) (fun _ _ _ _ _ => t_yes) (fun _ _ _ _ _ => (e_if (t_cmp op_gt im_gt (e_cal (G__law_draw T TB) (hr.mono (by omega)) (MS.takes0 _) (a_cons (e_v 0) (a_cons e_int a_nil))) e_int (by rfl)) (e_cal (G__law_draw T TB) (hr.mono (by omega)) (MS.takes0 _) (a_cons (e_v 0) (a_cons (e_add rfl (e_v 2) e_int) a_nil))) e_int)))
    (s_cons (s_if (t_cmp (op_eqD hr.units) im_eq (e_sum rfl rfl rfl (T.fr 3) (e_v 3)) e_int (by rfl)) (s_one (s_put (e_v 3) (e_cal (G__law_draw T TB) (hr.mono (by omega)) tk_of (a_cons (e_v 0) (a_cons (e_v 1) a_nil))) (e_add rfl e_int (e_cal (G__law_draw T TB) (hr.mono (by omega)) tk_of (a_cons (e_v 0) (a_cons (e_v 2) a_nil)))))) s_nil)
    (s_one (s_ret (e_tuple rfl (by rfl) (T.fr 2) (e_v 3)))))))
theorem G__law_lot (T : Tx K mg) (TB : Tb K mg base) : Okd P w K mg base (ct K) 3 "_law_lot" s__law_lot ["_law_feed_here", "_law_goods", "_law_kinds", "_law_most"] PL.m__law_lot := okd_of rfl rfl (T.glo 27) (F__law_lot T) sc__law_lot rfl rfl (fun _ _ _ _ _ _ us hl => match us, hl with | [_, _, _, _], _ => rfl) (fun cdv A outer s H E hcd hr =>
    (s_one (s_ret (e_tuple rfl (by rfl) (T.fr 2) (e_frz (f_cmp rfl sc__law_lot.nd (s_rng1 rfl (T.fr 4) (e_add rfl e_int (e_cal (G__law_draw T TB) (hr.mono (by omega)) tk_of (a_cons (e_v 0) (a_cons (e_v 2) a_nil))))) (own := [("_law_kind_here", 4)]) (blkOk_by (by rfl)) (by decide) (fun _ _ _ _ _ => (g_nm sc__law_lot.nd)) (fun _ _ _ _ _ => t_yes) (fun _ _ _ _ _ => (e_cal (G__law_hold T TB) (hr.mono (by omega)) (MS.takes0 _) (a_cons (e_v 0) (a_cons (e_v 1) (a_cons (e_v 3) a_nil)))))))))))
theorem G__law_pick (T : Tx K mg) (TB : Tb K mg base) : Okd P w K mg base (ct K) 2 "_law_pick" s__law_pick ["_law_feed_here", "_law_row"] PL.m__law_pick := okd_of rfl rfl (T.glo 28) (F__law_pick T) sc__law_pick rfl rfl (fun _ _ _ _ _ _ us hl => match us, hl with | [_, _], _ => rfl) (fun cdv A outer s H E hcd hr =>
    (s_one (s_ret (e_idx rfl (e_v 1) (e_cal (G__law_draw T TB) (hr.mono (by omega)) tk_of (a_cons (e_v 0) (a_cons (e_len rfl rfl (T.fr 1) (e_v 1)) a_nil)))))))
theorem G__law_any_lot (T : Tx K mg) (TB : Tb K mg base) : Okd P w K mg base (ct K) 4 "_law_any_lot" s__law_any_lot ["_law_feed_here"] PL.m__law_any_lot := okd_of rfl rfl (T.glo 29) (F__law_any_lot T) sc__law_any_lot rfl rfl (fun _ _ _ _ _ _ us hl => match us, hl with | [_], _ => rfl) (fun cdv A outer s H E hcd hr =>
    (s_one (s_ret (e_cal (G__law_lot T TB) (hr.mono (by omega)) tk_of (a_cons (e_v 0) (a_cons (e_add rfl e_int (e_cal (G__law_draw T TB) (hr.mono (by omega)) tk_of (a_cons (e_v 0) (a_cons e_int a_nil)))) (a_cons e_int (a_cons (e_cal (G__law_pick T TB) (hr.mono (by omega)) tk_of (a_cons (e_v 0) (a_cons (e_frz (f_lst (a_cons e_int (a_cons e_int (a_cons e_int (a_cons e_int a_nil)))))) a_nil))) a_nil))))))))
theorem G__law_row_text (T : Tx K mg) (TB : Tb K mg base) : Okd P w K mg base (ct K) 1 "_law_row_text" s__law_row_text ["_law_row"] PL.m_row_text := okd_of rfl rfl (T.glo 30) (F__law_row_text T) sc__law_row_text rfl rfl (fun _ _ _ _ _ _ us hl => match us, hl with | [_], _ => rfl) (fun cdv A outer s H E hcd hr =>
    (s_one (s_ret (e_join rfl e_str (e_frz (f_cmp rfl sc__law_row_text.nd (s_seq (e_v 0) rfl) (own := [("_law_number", 1)]) (blkOk_by (by rfl)) (by decide) (fun _ _ _ _ _ => (g_nm sc__law_row_text.nd)) (fun _ _ _ _ _ => t_yes) (fun _ _ _ _ _ => (e_str1 rfl (T.fr 5) (e_v 1)))))))))
theorem G__law_lot_text (T : Tx K mg) (TB : Tb K mg base) : Okd P w K mg base (ct K) 2 "_law_lot_text" s__law_lot_text ["_law_lot_here"] K06.m__law_lot_text := okd_of rfl rfl (T.glo 31) (F__law_lot_text T) sc__law_lot_text rfl rfl (fun _ _ _ _ _ _ us hl => match us, hl with | [_], _ => rfl) (fun cdv A outer s H E hcd hr =>
    (s_one (s_ret (e_join rfl e_str (e_frz (f_cmp rfl sc__law_lot_text.nd (s_seq (e_v 0) rfl) (own := [("_law_hold_here", 1)]) (blkOk_by (by rfl)) (by decide) (fun _ _ _ _ _ => (g_nm sc__law_lot_text.nd)) (fun _ _ _ _ _ => t_yes) (fun _ _ _ _ _ => (e_cal (G__law_row_text T TB) (hr.mono (by omega)) (MS.takes0 _) (a_cons (e_v 1) a_nil)))))))))
theorem G__law_number_in (T : Tx K mg) (TB : Tb K mg base) : Okd P w K mg base (ct K) 1 "_law_number_in" s__law_number_in ["_law_word_here"] PL.m__law_number_in := okd_of rfl rfl (T.glo 32) (F__law_number_in T) sc__law_number_in rfl rfl (fun _ _ _ _ _ _ us hl => match us, hl with | [_], _ => rfl) (fun cdv A outer s H E hcd hr =>
    (s_cons (s_set 1 sc__law_number_in.nd (e_if (t_cmp (op_eqD hr.units) im_eq (e_slc rfl (e_v 0) o_none (o_some e_int)) e_str (by rfl)) (e_slc rfl (e_v 0) (o_some e_int) o_none) (e_v 0)))
    (s_cons (s_if (pt_w (w_or (t_not (t_ch o_le o_le im_le im_le e_int (e_len rfl rfl (T.fr 1) (e_v 1)) e_int)) (w_or1 (t_not (t_tst rfl (e_all rfl rfl rfl (T.fr 7) (e_frz (f_cmp rfl sc__law_number_in.nd (s_str (e_v 1) rfl) (own := [("_law_sign", 2)]) (blkOk_by (by rfl)) (by decide) (fun _ _ _ _ _ => (g_nm sc__law_number_in.nd)) (fun _ _ _ _ _ => t_yes) (fun _ _ _ _ _ => (e_cmp op_inG im_in (e_v 2) e_str (by rfl))))))))))) (s_one (s_ret e_non)) s_nil)
    (s_cons (s_if (pt_w (w_or (pt_w (w_and (t_cmp op_gt im_gt (e_len rfl rfl (T.fr 1) (e_v 1)) e_int (by rfl)) (w_and1 (t_cmp (op_eqD hr.units) im_eq (e_idx rfl (e_v 1) e_int) e_str (by rfl))))) (w_or1 (t_cmp (op_eqD hr.units) im_eq (e_v 0) e_str (by rfl))))) (s_one (s_ret e_non)) s_nil)
    (s_one (s_ret (e_intx rfl (T.fr 6) (e_v 0))))))))
theorem G__law_read (T : Tx K mg) (TB : Tb K mg base) : Okd P w K mg base (ct K) 2 "_law_read" s__law_read ["_law_mtext"] K06.m__law_read := okd_of rfl rfl (T.glo 33) (F__law_read T) sc__law_read rfl rfl (fun _ _ _ _ _ _ us hl => match us, hl with | [_], _ => rfl) (fun cdv A outer s H E hcd hr =>
    (s_cons (s_set 1 sc__law_read.nd (e_new (f_lst a_nil)))
    (s_cons (s_for po_of rfl (s_seq (e_frz (f_spl (e_v 0) e_str)) rfl) (g_nm sc__law_read.nd) (s_cons (s_setCf 3 rfl sc__law_read.nd (own := [("_law_one", 4)]) (blkOk_by (by rfl)) (s_seq (e_frz (f_spl (e_v 2) e_str)) rfl) (by decide) (fun _ _ _ _ _ => (g_nm sc__law_read.nd)) (fun _ _ _ _ _ => t_yes) (fun _ _ _ _ _ => (e_cal (G__law_number_in T TB) (hr.mono (by omega)) (MS.takes0 _) (a_cons (e_v 4) a_nil))))
    (s_cons (s_if (t_cmp op_inG im_in e_non (e_v 3) (by rfl)) (s_one (s_ret (e_tup (a_cons e_non (a_cons e_str a_nil))))) s_nil)
    (s_one (s_expr (e_app rfl (e_v 1) (e_tuple rfl (by rfl) (T.fr 2) (e_v 3))))))))
    (s_cons (s_set 5 sc__law_read.nd (e_and (e_cmp o_le im_le (e_len rfl rfl (T.fr 1) (e_v 1)) e_int (by rfl)) (e_one (e_cmp o_le im_le (e_len rfl rfl (T.fr 1) (e_idx rfl (e_v 1) e_int)) e_int (by rfl)))))
    (s_cons (s_for po_of rfl (s_seq (e_v 1) rfl) (g_nm sc__law_read.nd) (s_cons (s_set 5 sc__law_read.nd (e_and (e_v 5) (e_and (e_cmp (op_eqD hr.units) im_eq (e_len rfl rfl (T.fr 1) (e_v 3)) (e_len rfl rfl (T.fr 1) (e_idx rfl (e_v 1) e_int)) (by rfl)) (e_one (e_cmp op_gt im_gt (e_sum rfl rfl rfl (T.fr 3) (e_v 3)) e_int (by rfl))))))
    (s_one (s_set 5 sc__law_read.nd (e_and (e_v 5) (e_and (e_cmp op_ge im_ge (e_min rfl hr.units rfl rfl (T.fr 9) (e_v 3)) e_int (by rfl)) (e_one (e_cmp o_le im_le (e_max rfl hr.units rfl rfl (T.fr 8) (e_v 3)) e_int (by rfl)))))))))
    (s_one (s_ret (e_if (t_tst rfl (e_v 5)) (e_tup (a_cons (e_tuple rfl (by rfl) (T.fr 2) (e_v 1)) (a_cons e_str a_nil))) (e_tup (a_cons e_non (a_cons e_str a_nil)))))))))))
theorem G__law_same (T : Tx K mg) (TB : Tb K mg base) : ∀ n, Okd P w K mg base (ct K) (n + 1) "_law_same" s__law_same ["_law_found", "_law_due"] (PL.m__law_same n)
  | 0 => okd_of rfl rfl (T.glo 34) (F__law_same T) sc__law_same rfl rfl (fun _ _ _ _ _ _ us hl => match us, hl with | [_, _], _ => rfl) (fun cdv A outer s H E hcd hr => ss_no)
  | n + 1 => okd_of rfl rfl (T.glo 34) (F__law_same T) sc__law_same rfl rfl (fun _ _ _ _ _ _ us hl => match us, hl with | [_, _], _ => rfl) (fun cdv A outer s H E hcd hr =>
    (s_cons (s_if (t_isn (e_v 1)) (s_one (s_ret (e_isn (e_v 0)))) s_nil)
    (s_cons (s_if (t_tst rfl (e_isi (t := .bool) (fun _ => nofun) rfl rfl (T.fr 10) rfl (T.fr 12) (by decide +kernel) (e_v 1))) (s_one (s_ret (e_and (e_isi (t := .bool) (fun _ => nofun) rfl rfl (T.fr 10) rfl (T.fr 12) (by decide +kernel) (e_v 0)) (e_one (e_cmp (op_eqD hr.units) im_eq (e_v 0) (e_v 1) (by rfl)))))) s_nil)
    (s_cons (s_if (t_tst rfl (e_isi (t := .int) (fun _ => nofun) rfl rfl (T.fr 10) rfl (T.fr 6) (by decide +kernel) (e_v 1))) (s_one (s_ret (e_and (e_isi (t := .int) (fun _ => nofun) rfl rfl (T.fr 10) rfl (T.fr 6) (by decide +kernel) (e_v 0)) (e_and (e_not (e_isi (t := .bool) (fun _ => nofun) rfl rfl (T.fr 10) rfl (T.fr 12) (by decide +kernel) (e_v 0))) (e_one (e_cmp (op_eqD hr.units) im_eq (e_v 0) (e_v 1) (by rfl))))))) s_nil)
    (s_cons (s_if (t_tst rfl (e_isi (t := .str) (fun _ => nofun) rfl rfl (T.fr 10) rfl (T.fr 5) (by decide +kernel) (e_v 1))) (s_one (s_ret (e_and (e_isi (t := .str) (fun _ => nofun) rfl rfl (T.fr 10) rfl (T.fr 5) (by decide +kernel) (e_v 0)) (e_one (e_cmp (op_eqD hr.units) im_eq (e_v 0) (e_v 1) (by rfl)))))) s_nil)
    (s_cons (s_if (t_tst rfl (e_isi (t := .dict) (fun _ => nofun) rfl rfl (T.fr 10) rfl (T.fr 11) (by decide +kernel) (e_v 1))) ss_no s_nil)
    (s_cons (s_if (pt_w (w_or (t_cmp (op_neD hr.units) im_ne (e_isi (t := .tuple) (fun _ => nofun) rfl rfl (T.fr 10) rfl (T.fr 2) (by decide +kernel) (e_v 1)) (e_isi (t := .tuple) (fun _ => nofun) rfl rfl (T.fr 10) rfl (T.fr 2) (by decide +kernel) (e_v 0)) (by rfl)) (w_or1 (t_cmp (op_neD hr.units) im_ne (e_isi (t := .list) (fun _ => nofun) rfl rfl (T.fr 10) rfl (T.fr 0) (by decide +kernel) (e_v 1)) (e_isi (t := .list) (fun _ => nofun) rfl rfl (T.fr 10) rfl (T.fr 0) (by decide +kernel) (e_v 0)) (by rfl))))) (s_one (s_ret e_bl)) s_nil)
    (s_cons (s_if (t_cmp (op_neD hr.units) im_ne (e_len rfl rfl (T.fr 1) (e_v 0)) (e_len rfl rfl (T.fr 1) (e_v 1)) (by rfl)) (s_one (s_ret e_bl)) s_nil)
    (s_one (s_ret (e_all rfl rfl rfl (T.fr 7) (e_frz (f_cmp rfl sc__law_same.nd (s_rng1 rfl (T.fr 4) (e_len rfl rfl (T.fr 1) (e_v 1))) (own := [("_law_at", 3)]) (blkOk_by (by rfl)) (by decide) (fun _ _ _ _ _ => (g_nm sc__law_same.nd)) (fun _ _ _ _ _ => t_yes) (fun _ _ _ _ _ => (e_cal (G__law_same T TB n) (hr.mono (by omega)) (MS.takes0 _) (a_cons (e_idx rfl (e_v 0) (e_v 3)) (a_cons (e_idx rfl (e_v 1) (e_v 3)) a_nil)))))))))))))))))
theorem w__law_word (T : Tx K mg) {A : Around} {outer : List Env} (cdv : Value) : GivesW P w K mg base A outer (ct K) ["_law_ask", "_law_word_here", "_law_answer", "e"] "_law_word" (defScope s__law_word) (ga K "_law_word") cdv (defBody s__law_word) "_law_ask" b__law_word := fun y s H a0 _ act =>
    (s_cons (s_set 1 sc__law_word.nd e_str)
    (s_cons (s_set 2 sc__law_word.nd e_non)
    (s_cons (s_tryN rfl rfl (MS.takes0 _) rfl rfl (fun W pn xe tk po => (s_one (s_set 2 sc__law_word.nd (act W pn xe _ _ tk))))
      (h_cons sc__law_word.nd rfl rfl ⟨rfl, by decide, .inl (T.glo 15)⟩ (xm_LotError T) (fun a oe k dx ns vs pn hz hv => (s_one (s_set 1 sc__law_word.nd (e_xf (x := ⟨3, a, dx, ns, vs⟩) (xc T k).2 ((xc T k).1.n _ (by decide)) hz hv rfl (Or.inl rfl) rfl))))
      (h_cons sc__law_word.nd rfl rfl ⟨rfl, by decide, .inl (T.glo 14)⟩ (xm_Missing T) (fun a oe k dx ns vs pn hz hv => (s_one (s_set 1 sc__law_word.nd (e_xf (x := ⟨3, a, dx, ns, vs⟩) (xc T k).2 ((xc T k).1.n _ (by decide)) hz hv rfl (Or.inl rfl) rfl))))
      (h_cons sc__law_word.nd rfl rfl ⟨rfl, by decide, .inl (T.glo 13)⟩ (xm_NothingLeft T) (fun a oe k dx ns vs pn hz hv => (s_one (s_set 1 sc__law_word.nd (e_xf (x := ⟨3, a, dx, ns, vs⟩) (xc T k).2 ((xc T k).1.n _ (by decide)) hz hv rfl (Or.inl rfl) rfl))))
      h_nil))))
    (s_one (s_ret (e_tup (a_cons (e_v 2) (a_cons (e_v 1) a_nil))))))))
theorem G_is_number (T : Tx K mg) (TB : Tb K mg base) : Okd P w K mg base (ct K) 1 "is_number" s_is_number ["thing", "low", "high"] PL.m_is_number := okd_of rfl rfl (T.glo 35) (F_is_number T) sc_is_number rfl rfl (fun _ _ _ _ _ _ us hl => match us, hl with | [_, _, _], _ => rfl) (fun cdv A outer s H E hcd hr =>
    (s_one (s_ret (e_and (e_isi (t := .int) (fun _ => nofun) rfl rfl (T.fr 10) rfl (T.fr 6) (by decide +kernel) (e_v 0)) (e_and (e_not (e_isi (t := .bool) (fun _ => nofun) rfl rfl (T.fr 10) rfl (T.fr 12) (by decide +kernel) (e_v 0))) (e_one (e_ch o_le o_le im_le im_le (e_v 1) (e_v 0) (e_v 2))))))))
theorem G_is_hold (T : Tx K mg) (TB : Tb K mg base) : Okd P w K mg base (ct K) 2 "is_hold" s_is_hold ["hold", "goods"] PL.m_is_hold := okd_of rfl rfl (T.glo 36) (F_is_hold T) sc_is_hold rfl rfl (fun _ _ _ _ _ _ us hl => match us, hl with | [_, _], _ => rfl) (fun cdv A outer s H E hcd hr =>
    (s_cons (s_if (pt_w (w_or (t_cmp (op_neD hr.units) im_ne (e_len rfl rfl (T.fr 1) (e_v 0)) (e_v 1) (by rfl)) (w_or1 (t_not (t_tst rfl (e_all rfl rfl rfl (T.fr 7) (e_frz (f_cmp rfl sc_is_hold.nd (s_seq (e_v 0) rfl) (own := [("amount", 2)]) (blkOk_by (by rfl)) (by decide) (fun _ _ _ _ _ => (g_nm sc_is_hold.nd)) (fun _ _ _ _ _ => t_yes) (fun _ _ _ _ _ => (e_cal (G_is_number T TB) (hr.mono (by omega)) (MS.takes0 _) (a_cons (e_v 2) (a_cons e_int (a_cons (e_gint (T.int 16)) a_nil))))))))))))) (s_one (s_ret e_bl)) s_nil)
    (s_one (s_ret (e_cmp op_gt im_gt (e_sum rfl rfl rfl (T.fr 3) (e_v 0)) e_int (by rfl))))))
theorem G_look_lot (T : Tx K mg) (TB : Tb K mg base) : Okd P w K mg base (ct K) 3 "look_lot" s_look_lot ["lot"] PL.m_look_lot := okd_of rfl rfl (T.glo 37) (F_look_lot T) sc_look_lot rfl rfl (fun _ _ _ _ _ _ us hl => match us, hl with | [_], _ => rfl) (fun cdv A outer s H E hcd hr =>
    (s_cons (s_if (pt_w (w_or (t_not (t_ch o_le o_le im_le im_le e_int (e_len rfl rfl (T.fr 1) (e_v 0)) (e_gint (T.int 19)))) (w_or1 (t_not (t_ch o_le o_le im_le im_le e_int (e_len rfl rfl (T.fr 1) (e_idx rfl (e_v 0) e_int)) (e_gint (T.int 18))))))) (s_one (s_raiseG rfl rfl tk_of (X_BadLot T) (hr.mono (by omega)) (e_neg e_int))) s_nil)
    (s_one (s_for po_of rfl (s_enum rfl rfl (T.fr 17) (e_v 0)) (g_tp rfl rfl (gs_cons sc_look_lot.nd (gs_cons sc_look_lot.nd gs_nil))) (s_one (s_if (t_not (t_tst rfl (e_cal (G_is_hold T TB) (hr.mono (by omega)) tk_of (a_cons (e_v 2) (a_cons (e_len rfl rfl (T.fr 1) (e_idx rfl (e_v 0) e_int)) a_nil))))) (s_one (s_raiseG rfl rfl tk_of (X_BadLot T) (hr.mono (by omega)) (e_v 1))) s_nil))))))
theorem G_row_text (T : Tx K mg) (TB : Tb K mg base) : Okd P w K mg base (ct K) 1 "row_text" s_row_text ["row"] PL.m_row_text := okd_of rfl rfl (T.glo 38) (F_row_text T) sc_row_text rfl rfl (fun _ _ _ _ _ _ us hl => match us, hl with | [_], _ => rfl) (fun cdv A outer s H E hcd hr =>
    (s_one (s_ret (e_join rfl e_str (e_frz (f_cmp rfl sc_row_text.nd (s_seq (e_v 0) rfl) (own := [("number", 1)]) (blkOk_by (by rfl)) (by decide) (fun _ _ _ _ _ => (g_nm sc_row_text.nd)) (fun _ _ _ _ _ => t_yes) (fun _ _ _ _ _ => (e_str1 rfl (T.fr 5) (e_v 1)))))))))
theorem G_lot_text (T : Tx K mg) (TB : Tb K mg base) : Okd P w K mg base (ct K) 4 "lot_text" s_lot_text ["lot"] PL.m_lot_text := okd_of rfl rfl (T.glo 39) (F_lot_text T) sc_lot_text rfl rfl (fun _ _ _ _ _ _ us hl => match us, hl with | [_], _ => rfl) (fun cdv A outer s H E hcd hr =>
    (s_cons (s_expr (e_cal (G_look_lot T TB) (hr.mono (by omega)) tk_of (a_cons (e_v 0) a_nil)))
    (s_one (s_ret (e_join rfl e_str (e_frz (f_cmp rfl sc_lot_text.nd (s_seq (e_v 0) rfl) (own := [("hold", 1)]) (blkOk_by (by rfl)) (by decide) (fun _ _ _ _ _ => (g_nm sc_lot_text.nd)) (fun _ _ _ _ _ => t_yes) (fun _ _ _ _ _ => (e_cal (G_row_text T TB) (hr.mono (by omega)) (MS.takes0 _) (a_cons (e_v 1) a_nil))))))))))
theorem G_is_figures (T : Tx K mg) (TB : Tb K mg base) : Okd P w K mg base (ct K) 1 "is_figures" s_is_figures ["text"] PL.m_is_figures := okd_of rfl rfl (T.glo 40) (F_is_figures T) sc_is_figures rfl rfl (fun _ _ _ _ _ _ us hl => match us, hl with | [_], _ => rfl) (fun cdv A outer s H E hcd hr =>
    (s_cons (s_if (pt_w (w_or (t_not (t_ch o_le o_le im_le im_le e_int (e_len rfl rfl (T.fr 1) (e_v 0)) (e_gint (T.int 20)))) (w_or1 (t_not (t_tst rfl (e_all rfl rfl rfl (T.fr 7) (e_frz (f_cmp rfl sc_is_figures.nd (s_str (e_v 0) rfl) (own := [("sign", 1)]) (blkOk_by (by rfl)) (by decide) (fun _ _ _ _ _ => (g_nm sc_is_figures.nd)) (fun _ _ _ _ _ => t_yes) (fun _ _ _ _ _ => (e_cmp op_inG im_in (e_v 1) e_str (by rfl))))))))))) (s_one (s_ret e_bl)) s_nil)
    (s_one (s_ret (e_or (e_cmp (op_eqD hr.units) im_eq (e_len rfl rfl (T.fr 1) (e_v 0)) e_int (by rfl)) (e_one (e_cmp (op_neD hr.units) im_ne (e_idx rfl (e_v 0) e_int) e_str (by rfl))))))))
theorem G_number_in (T : Tx K mg) (TB : Tb K mg base) : Okd P w K mg base (ct K) 2 "number_in" s_number_in ["text"] PL.m_number_in := okd_of rfl rfl (T.glo 41) (F_number_in T) sc_number_in rfl rfl (fun _ _ _ _ _ _ us hl => match us, hl with | [_], _ => rfl) (fun cdv A outer s H E hcd hr =>
    (s_cons (s_set 1 sc_number_in.nd (e_rmp (e_v 0) e_str))
    (s_cons (s_if (pt_w (w_or (t_not (t_tst rfl (e_cal (G_is_figures T TB) (hr.mono (by omega)) tk_of (a_cons (e_v 1) a_nil)))) (w_or1 (t_cmp (op_eqD hr.units) im_eq (e_v 0) e_str (by rfl))))) (s_one (s_ret e_non)) s_nil)
    (s_one (s_ret (e_if (t_cmp (op_eqD hr.units) im_eq (e_v 1) (e_v 0) (by rfl)) (e_intx rfl (T.fr 6) (e_v 1)) (e_sub e_int (e_intx rfl (T.fr 6) (e_v 1)))))))))
theorem G_read_row (T : Tx K mg) (TB : Tb K mg base) : Okd P w K mg base (ct K) 3 "read_row" s_read_row ["text"] PL.m_read_row := okd_of rfl rfl (T.glo 42) (F_read_row T) sc_read_row rfl rfl (fun _ _ _ _ _ _ us hl => match us, hl with | [_], _ => rfl) (fun cdv A outer s H E hcd hr =>
    (s_cons (s_set 1 sc_read_row.nd (e_tuple rfl (by rfl) (T.fr 2) (e_frz (f_cmp rfl sc_read_row.nd (s_seq (e_frz (f_spl (e_v 0) e_str)) rfl) (own := [("word", 2)]) (blkOk_by (by rfl)) (by decide) (fun _ _ _ _ _ => (g_nm sc_read_row.nd)) (fun _ _ _ _ _ => t_yes) (fun _ _ _ _ _ => (e_cal (G_number_in T TB) (hr.mono (by omega)) (MS.takes0 _) (a_cons (e_v 2) a_nil)))))))
    (s_cons (s_if (t_cmp op_inG im_in e_non (e_v 1) (by rfl)) (s_one (s_raiseG rfl rfl tk_of (X_BadText T) (hr.mono (by omega)) e_int)) s_nil)
    (s_one (s_ret (e_v 1))))))
theorem G_read_lot (T : Tx K mg) (TB : Tb K mg base) : Okd P w K mg base (ct K) 4 "read_lot" s_read_lot ["text"] K06.m_read_lot := okd_of rfl rfl (T.glo 43) (F_read_lot T) sc_read_lot rfl rfl (fun _ _ _ _ _ _ us hl => match us, hl with | [_], _ => rfl) (fun cdv A outer s H E hcd hr =>
    (s_cons (s_set 1 sc_read_lot.nd (e_tuple rfl (by rfl) (T.fr 2) (e_frz (f_cmpX rfl rfl tk_of rfl sc_read_lot.nd (s_seq (e_frz (f_spl (e_v 0) e_str)) rfl) (own := [("word", 2)]) (blkOk_by (by rfl)) (by decide) (fun _ _ _ _ _ _ => (g_nm sc_read_lot.nd)) (fun _ _ _ _ _ _ => t_yes) (fun _ _ _ _ _ _ _ tk => (e_cal (G_read_row T TB) (hr.mono (by omega)) tk (a_cons (e_v 2) a_nil)))))))
    (s_cons (s_expr (e_cal (G_look_lot T TB) (hr.mono (by omega)) tk_of (a_cons (e_v 1) a_nil)))
    (s_one (s_ret (e_v 1))))))
theorem G__law_kind (T : Tx K mg) (TB : Tb K mg base) : Okd P w K mg base (ct K) 5 "_law_kind" s__law_kind ["_law_mtext"] K06.m__law_kind := okd_of rfl rfl (T.glo 44) (F__law_kind T) sc__law_kind rfl rfl (fun _ _ _ _ _ _ us hl => match us, hl with | [_], _ => rfl) (fun cdv A outer s H E hcd hr =>
    (s_cons (s_set 1 sc__law_kind.nd e_str)
    (s_cons (s_tryN rfl rfl tk_of rfl rfl (fun W pn xe tk po => (s_one (s_expr (e_cal (G_read_lot T TB) (hr.mono (by omega)) tk (a_cons (e_v 0) a_nil)))))
      (h_cons sc__law_kind.nd rfl rfl ⟨rfl, by decide, .inl (T.glo 21)⟩ (xm_BadLot T) (fun a oe k dx ns vs pn hz hv => (s_one (s_set 1 sc__law_kind.nd (e_xf (x := ⟨2, a, dx, ns, vs⟩) (xc T k).2 ((xc T k).1.n _ (by decide)) hz hv rfl (Or.inl rfl) rfl))))
      h_nil))
    (s_one (s_ret (e_v 1))))))
theorem G__law_flaw (T : Tx K mg) (TB : Tb K mg base) : Okd P w K mg base (ct K) 1 "_law_flaw" s__law_flaw ["_law_mtext"] K06.m__law_flaw := okd_of rfl rfl (T.glo 45) (F__law_flaw T) sc__law_flaw rfl rfl (fun _ _ _ _ _ _ us hl => match us, hl with | [_], _ => rfl) (fun cdv A outer s H E hcd hr =>
    (s_cons (s_setCf 1 rfl sc__law_flaw.nd (own := [("_law_word_here", 2)]) (blkOk_by (by rfl)) (s_seq (e_frz (f_spl (e_v 0) e_str)) rfl) (by decide) (fun _ _ _ _ _ => (g_nm sc__law_flaw.nd)) (fun _ _ _ _ _ => t_yes) (fun _ _ _ _ _ => (e_frz (f_spl (e_v 2) e_str))))
    (s_cons (s_if (pt_w (w_or (t_cmp op_gt im_gt (e_len rfl rfl (T.fr 1) (e_v 1)) e_int (by rfl)) (w_or1 (t_cmp op_gt im_gt (e_len rfl rfl (T.fr 1) (e_idx rfl (e_v 1) e_int)) e_int (by rfl))))) (s_one (s_ret (e_neg e_int))) s_nil)
    (s_cons (s_for po_of rfl (s_rng1 rfl (T.fr 4) (e_len rfl rfl (T.fr 1) (e_v 1))) (g_nm sc__law_flaw.nd) (s_cons (s_setCf 4 rfl sc__law_flaw.nd (own := [("_law_word_here", 2)]) (blkOk_by (by rfl)) (s_seq (e_idx rfl (e_v 1) (e_v 3)) rfl) (by decide) (fun _ _ _ _ _ => (g_nm sc__law_flaw.nd)) (fun _ _ _ _ _ => t_yes) (fun _ _ _ _ _ => (e_intx rfl (T.fr 6) (e_v 2))))
    (s_one (s_if (pt_w (w_or (t_cmp (op_neD hr.units) im_ne (e_len rfl rfl (T.fr 1) (e_v 4)) (e_len rfl rfl (T.fr 1) (e_idx rfl (e_v 1) e_int)) (by rfl)) (w_or (t_cmp (op_eqD hr.units) im_eq (e_sum rfl rfl rfl (T.fr 3) (e_v 4)) e_int (by rfl)) (w_or (t_cmp o_lt im_lt (e_min rfl hr.units rfl rfl (T.fr 9) (e_v 4)) e_int (by rfl)) (w_or1 (t_cmp op_gt im_gt (e_max rfl hr.units rfl rfl (T.fr 8) (e_v 4)) e_int (by rfl))))))) (s_one (s_ret (e_v 3))) s_nil))))
    (s_one (s_ret e_non))))))
theorem G_law (T : Tx K mg) (TB : Tb K mg base) : Okd P w K mg base (ct K) 10 "law" s_law ["_law_script"] K06.m_law := okd_of rfl rfl (T.glo 46) (F_law T) sc_law rfl rfl (fun _ _ _ _ _ _ us hl => match us, hl with | [_], _ => rfl) (fun cdv A outer s H E hcd hr =>
    (s_cons (s_set 1 sc_law.nd (e_cal (G__law_feed T TB) (hr.mono (by omega)) tk_of (a_cons (e_v 0) a_nil)))
    (s_cons (s_for po_of rfl (s_rng1 rfl (T.fr 4) e_int) (g_nm sc_law.nd) (s_cons (s_set 3 sc_law.nd (e_cal (G__law_any_lot T TB) (hr.mono (by omega)) tk_of (a_cons (e_v 1) a_nil)))
    (s_cons (s_set 4 sc_law.nd (e_cal (G__law_lot_text T TB) (hr.mono (by omega)) tk_of (a_cons (e_v 3) a_nil)))
    (s_cons (s_if (t_not (t_tst rfl (e_cal (G__law_same T TB 8) (hr.mono (by omega)) tk_of (a_cons (e_frz (f_lst (a_cons (e_cal (G_lot_text T TB) (hr.mono (by omega)) tk_of (a_cons (e_v 3) a_nil)) (a_cons (e_cal (G_read_lot T TB) (hr.mono (by omega)) tk_of (a_cons (e_v 4) a_nil)) a_nil)))) (a_cons (e_frz (f_lst (a_cons (e_v 4) (a_cons (e_v 3) a_nil)))) a_nil))))) (s_one (s_ret e_bl)) s_nil)
    (s_cons (s_set 5 sc_law.nd (e_cal (G__law_draw T TB) (hr.mono (by omega)) tk_of (a_cons (e_v 1) (a_cons (e_add rfl (e_len rfl rfl (T.fr 1) (e_v 4)) e_int) a_nil))))
    (s_cons (s_set 6 sc_law.nd (e_cal (G__law_pick T TB) (hr.mono (by omega)) tk_of (a_cons (e_v 1) (a_cons (e_frz (f_lst (a_cons e_str (a_cons e_str (a_cons e_str (a_cons e_str (a_cons e_str (a_cons e_str (a_cons e_str a_nil))))))))) a_nil))))
    (s_cons (s_set 7 sc_law.nd (e_new (f_spl (e_v 4) e_str)))
    (s_cons (s_set 8 sc_law.nd (e_cal (G__law_draw T TB) (hr.mono (by omega)) tk_of (a_cons (e_v 1) (a_cons (e_len rfl rfl (T.fr 1) (e_v 7)) a_nil))))
    (s_cons (s_set 9 sc_law.nd (e_new (f_lst (a_cons (e_add rfl (e_add rfl (e_slc rfl (e_v 4) o_none (o_some (e_v 5))) (e_v 6)) (e_slc rfl (e_v 4) (o_some (e_v 5)) o_none)) (a_cons (e_add rfl (e_slc rfl (e_v 4) o_none (o_some (e_v 5))) (e_slc rfl (e_v 4) (o_some (e_add rfl (e_v 5) e_int)) o_none)) a_nil)))))
    (s_cons (s_expr (e_app rfl (e_v 9) (e_add rfl (e_add rfl (e_slc rfl (e_v 4) o_none (o_some (e_v 5))) (e_v 6)) (e_slc rfl (e_v 4) (o_some (e_add rfl (e_v 5) e_int)) o_none))))
    (s_cons (s_set 10 sc_law.nd (e_new (f_cat (e_new (f_slc rfl (e_v 7) o_none (o_some (e_v 8)))) (e_new (f_slc rfl (e_v 7) (o_some (e_v 8)) (o_some (e_add rfl (e_v 8) e_int)))))))
    (s_cons (s_expr (e_app rfl (e_v 9) (e_join rfl e_str (e_frz (f_cat (e_v 10) (e_new (f_slc rfl (e_v 7) (o_some (e_v 8)) o_none)))))))
    (s_cons (s_expr (e_app rfl (e_v 9) (e_join rfl e_str (e_frz (f_cat (e_new (f_slc rfl (e_v 7) o_none (o_some (e_v 8)))) (e_new (f_slc rfl (e_v 7) (o_some (e_add rfl (e_v 8) e_int)) o_none)))))))
    (s_cons (s_expr (e_app rfl (e_v 9) (e_join rfl e_str (e_frz (f_rev rfl (e_v 7))))))
    (s_cons (s_set 11 sc_law.nd (e_idx rfl (e_v 9) (e_cal (G__law_draw T TB) (hr.mono (by omega)) tk_of (a_cons (e_v 1) (a_cons e_int a_nil)))))
    (s_cons (s_set 12 sc_law.nd (e_cal (G__law_read T TB) (hr.mono (by omega)) tk_of (a_cons (e_v 11) a_nil)))
    (s_cons (s_if (t_not (t_tst rfl (e_cal (G__law_same T TB 8) (hr.mono (by omega)) tk_of (a_cons (e_lamD (k := 4) (st := s__law_word) rfl rfl rfl (T.glo 22) (F__law_word T) sc__law_word rfl rfl (Or.inl rfl) (fun cdv => w__law_word T cdv) (fun _ _ _ _ _ _ us hl => match us, hl with | [_], _ => rfl) (TB _ hc_law) hcd hm_law (hu_at (ndT T) hm_law) (hr.mono (by omega)) (by rfl) (fun A outer s H E f c' hl => (e_kwm0 ["text"] [(2, 0)] (G_read_lot T TB) (hl.mono (by omega)) tk_lam (k_cons (e_v 11) k_nil) (fun _ _ _ _ _ _ us ws l1 l2 => match us, l1, ws, l2 with | [], _, [_], _ => rfl) (kl_cons (fun _ _ _ _ h => kl_nil h))))) (a_cons (e_v 12) a_nil))))) (s_one (s_ret e_bl)) s_nil)
    (s_one (s_if (pt_w (w_and (t_cmp (op_eqD hr.units) im_eq (e_idx rfl (e_v 12) e_int) e_str (by rfl)) (w_and1 (t_not (t_tst rfl (e_cal (G__law_same T TB 8) (hr.mono (by omega)) tk_of (a_cons (e_cal (G__law_kind T TB) (hr.mono (by omega)) tk_of (a_cons (e_v 11) a_nil)) (a_cons (e_cal (G__law_flaw T TB) (hr.mono (by omega)) tk_of (a_cons (e_v 11) a_nil)) a_nil)))))))) (s_one (s_ret e_bl)) s_nil)))))))))))))))))))
    (s_cons (s_set 7 sc_law.nd (e_new (f_lst (a_cons (e_lamD (k := 4) (st := s__law_word) rfl rfl rfl (T.glo 22) (F__law_word T) sc__law_word rfl rfl (Or.inl rfl) (fun cdv => w__law_word T cdv) (fun _ _ _ _ _ _ us hl => match us, hl with | [_], _ => rfl) (TB _ hc_law) hcd hm_law (hu_at (ndT T) hm_law) (hr.mono (by omega)) (by rfl) (fun A outer s H E f c' hl => (e_cal (G_read_lot T TB) (hl.mono (by omega)) tk_lam (a_cons e_str a_nil)))) a_nil))))
    (s_cons (s_expr (e_app rfl (e_v 7) (e_lamD (k := 4) (st := s__law_word) rfl rfl rfl (T.glo 22) (F__law_word T) sc__law_word rfl rfl (Or.inl rfl) (fun cdv => w__law_word T cdv) (fun _ _ _ _ _ _ us hl => match us, hl with | [_], _ => rfl) (TB _ hc_law) hcd hm_law (hu_at (ndT T) hm_law) (hr.mono (by omega)) (by rfl) (fun A outer s H E f c' hl => (e_cal (G_read_lot T TB) (hl.mono (by omega)) tk_lam (a_cons e_str a_nil))))))
    (s_cons (s_expr (e_app rfl (e_v 7) (e_lamD (k := 4) (st := s__law_word) rfl rfl rfl (T.glo 22) (F__law_word T) sc__law_word rfl rfl (Or.inl rfl) (fun cdv => w__law_word T cdv) (fun _ _ _ _ _ _ us hl => match us, hl with | [_], _ => rfl) (TB _ hc_law) hcd hm_law (hu_at (ndT T) hm_law) (hr.mono (by omega)) (by rfl) (fun A outer s H E f c' hl => (e_cal (G_read_lot T TB) (hl.mono (by omega)) tk_lam (a_cons e_str a_nil))))))
    (s_one (s_ret (e_and (e_cmp (op_eqD hr.units) im_eq (e_v 7) (e_frz (f_rep (e_new (f_lst (a_cons (e_tup (a_cons e_non (a_cons e_str a_nil))) a_nil))) e_int)) (by rfl)) (e_one (e_cmp (op_eqD hr.units) im_eq (e_lamD (k := 4) (st := s__law_word) rfl rfl rfl (T.glo 22) (F__law_word T) sc__law_word rfl rfl (Or.inl rfl) (fun cdv => w__law_word T cdv) (fun _ _ _ _ _ _ us hl => match us, hl with | [_], _ => rfl) (TB _ hc_law) hcd hm_law (hu_at (ndT T) hm_law) (hr.mono (by omega)) (by rfl) (fun A outer s H E f c' hl => (e_cal (G_lot_text T TB) (hl.mono (by omega)) tk_lam (a_cons (e_tup (a_cons (e_tup (a_cons e_int a_nil)) a_nil)) a_nil)))) (e_tup (a_cons e_non (a_cons e_str a_nil))) (by rfl))))))))))))
end
end K06
namespace MS
open PySem PySem.Spec PyProof.Rows L2
open He (Fa DefD Tab Defn AlX obsT frT tabsB valX cT)
def obsA (as : List Addr) (fa : List Fa) (fn : List DefD) (ts : List Tab) (tf : List Defn) (ex : PySem.W.Frag → Bool) (g : Addr → Option Obj) : AlX := (obsT fa fn ts (frT g as), ex (frT g as) && tabsB g tf (frT g as))
theorem saysA_of {as : List Addr} {fa : List Fa} {fn : List DefD} {ts : List Tab} {tf : List Defn} {ex : PySem.W.Frag → Bool} {w : World} {h : Heap} (e : obsA as fa fn ts tf ex h.get? = valX fn ts w) : He.SaysX fa fn ts tf ex w h (frT h.get? as) := by
  have e1 : obsT fa fn ts (frT h.get? as) = He.valT fn ts w := congrArg (fun z : AlX => z.1) e
  have e2 : (ex (frT h.get? as) && tabsB h.get? tf (frT h.get? as)) = true := congrArg (fun z : AlX => z.2) e
  obtain ⟨h1, h2⟩ := He.ba e2
  have key : ∀ p ∈ tf, PySem.W.codeHdIn (frT h.get? as) (cT (frT h.get? as) p).1 (cT (frT h.get? as) p).2 = true ∧ ∃ o, h.get? (cT (frT h.get? as) p).2 = some o ∧ He.emptyTab o = true := fun p hp => by
    obtain ⟨h3, h4⟩ := He.ba (List.all_eq_true.mp h2 p hp)
    refine ⟨h3, ?_⟩
    cases q : h.get? (cT (frT h.get? as) p).2 with
    | none =>
      rw [q] at h4
      cases h4
    | some o =>
      rw [q] at h4
      exact ⟨o, rfl, h4⟩
  exact ⟨e1, h1, fun p hp => (key p hp).1, fun p hp => by
    obtain ⟨_, o, q, z⟩ := key p hp
    exact He.frT_none q z, fun p hp => by
    obtain ⟨_, o, q, z⟩ := key p hp
    rw [q, He.emptyTab_eq z]⟩
/-- a Hook over written addresses -/
def hookA (as : List Addr) (fa : List Fa) (fn : List DefD) (ts : List Tab) (tf : List Defn) (ex : PySem.W.Frag → Bool) : PySem.W.Hook where
  α := AlX
  obs := fun s => obsA as fa fn ts tf ex s.heap.get?
  val := fun w => valX fn ts w
  says := fun w h => ∃ K : PySem.W.Frag, K.In h ∧ He.SaysX fa fn ts tf ex w h K
  of := fun _ _ e => ⟨_, He.frT_in, saysA_of e⟩
  keeps := fun _ _ _ ⟨K, hK, c⟩ k => ⟨K, PySem.W.Frag.In.keeps hK k, ⟨c.t, c.more, c.hd, c.out, fun p hp => k _ _ (c.empty p hp)⟩⟩
theorem obsA_eq {as : List Addr} {fa : List Fa} {fn : List DefD} {ts : List Tab} {tf : List Defn} {ex : PySem.W.Frag → Bool} {g : Addr → Option Obj} {s : Shared} (h : ∀ a, g a = s.heap.get? a) : obsA as fa fn ts tf ex g = (hookA as fa fn ts tf ex).obs s := by
  have e : g = s.heap.get? := funext h
  rw [e] <;> rfl
end MS
namespace K06
open PySem PySem.Spec PyProof.Rows L2 MS
abbrev Ro : PySem.W.OpenRow := PySem.W.OpenLaw.row PySem.Challenge.rw_hamperlot_k06_lots_written_and_read
def tf : List He.Defn := [("law", none)]
def asL0 : List Addr := [3, 6, 4, 24, 37, 57, 77, 96, 105, 110, 117, 122, 127, 132, 139, 144, 149, 156, 163, 170, 175, 182, 187, 192, 199, 204, 209, 214, 219, 224, 231, 238, 0, 23, 36, 56, 76, 95, 104, 109, 116, 121, 126, 131, 138, 143, 148, 155, 162, 169, 174, 181, 186, 191, 198, 203, 208, 213, 218, 223, 230, 237, 22, 25, 35, 38, 54, 55, 58, 74, 75, 93, 94, 99, 101, 102, 103, 106, 108, 111, 113, 114, 115, 118, 120, 123, 125, 128, 130, 133, 135, 136, 137, 140, 142, 145, 147, 150, 152, 153]
def asL1 : List Addr := [154, 157, 159, 160, 161, 164, 166, 167, 168, 171, 173, 176, 178, 179, 180, 183, 185, 188, 190, 193, 195, 196, 197, 200, 202, 205, 207, 210, 212, 215, 217, 220, 222, 225, 227, 228, 229, 232, 234, 235, 236, 53, 73, 92, 48, 50, 51, 52, 68, 70, 71, 72, 87, 89, 90, 91]
abbrev asL : List Addr := asL0 ++ asL1
abbrev hook : PySem.W.Hook := MS.hookA asL fa fn [] tf ex
def obR_ (s : PySem.W.SharedT) : He.AlX := MS.obsA asL fa fn [] tf ex (HandSHeadRun.getT s)
theorem ob_eq (s : PySem.W.SharedT) : obR_ s = hook.obs s.abs := MS.obsA_eq (HandSHeadRun.getT_eq s)
def loose0 : List PySem.Str := ["LotError", "Missing", "NothingLeft", "BadLot", "BadText", "is_number", "MOST_KINDS", "MOST_GOODS", "MOST_HOLD", "is_hold", "look_lot", "MOST_FIGURES", "row_text", "lot_text", "is_figures", "number_in", "read_row", "read_lot", "_law_feed", "_law_draw"]
def loose1 : List PySem.Str := ["_law_pick", "_law_same", "_law_word", "_law_hold", "_law_lot", "_law_any_lot", "_law_row_text", "_law_lot_text", "_law_number_in", "_law_read", "_law_flaw", "_law_kind"]
abbrev loose : List PySem.Str := loose0 ++ loose1
theorem run (w : World) : HandSHeadRun.RunEq Ro (PySem.W.view Ro.prog [37]) hook obR_ 12000 loose w := by
  intro os
  kernel_rfl
end K06
namespace PL
open MP ML
theorem draw {n k : Nat} {S : Sto} (h : Feed n k S) {many : Int} (hm : 0 < many := by omega) (hm2 : many < 2 ^ 300 := by omega) (hk : k ≤ 1000000 := by omega) :
    ∃ r S', m__law_draw [.ref n, .int many] S = .ok (.int r) S' ∧ 0 ≤ r ∧ r < many ∧ Feed n (k + 1) S' ∧ Gr n S S' := by
  obtain ⟨cs, a, b, c, d, e, h1, h2, h3, h4, h5, h6⟩ := h
  obtain ⟨r, a', b', c', d', e2, g1, g2, g3, g4, g5, g6, g7, g8⟩ := ML.draw_ok e h1 h2 h3 h4 h5 (by omega) hm hm2
  exact ⟨r, _, e2, g1, g2, ⟨cs, a', b', c', d', List.getElem?_set_self (lt_of_some e), g3, g4, g5, g6, by omega, by omega⟩, .set⟩
theorem pick {n k : Nat} {S : Sto} {xs : List D} (h : Feed n k S) (hx : 0 < xs.length := by simp) (hx2 : xs.length < 1000000 := by simp) (hk : k ≤ 1000000 := by omega) :
    ∃ x S', x ∈ xs ∧ m__law_pick [.ref n, .lst xs] S = .ok x S' ∧ Feed n (k + 1) S' ∧ Gr n S S' := by
  obtain ⟨i, S', _, ⟨x, hx, e⟩, h3, h4, _⟩ := ML.pick_feed h hx hx2 hk
  exact ⟨x, S', List.mem_of_getElem? hx, e, h3, h4⟩
/-- data that the last comparison can hold, n deep -/
def okD : Nat → D → Bool
  | n + 1, .tup xs => decide (xs.length < 1000000) && xs.all (okD n)
  | n + 1, .lst xs => decide (xs.length < 1000000) && xs.all (okD n)
  | _ + 1, .str z => z.all (· < 0x110000)
  | _ + 1, .non => true
  | _ + 1, .bl _ => true
  | _ + 1, .int _ => true
  | _, _ => false
@[simp] theorem okD_non (n) : okD (n + 1) .non = true := rfl
@[simp] theorem okD_bl (n b) : okD (n + 1) (.bl b) = true := rfl
@[simp] theorem okD_int (n b) : okD (n + 1) (.int b) = true := rfl
@[simp] theorem okD_str (n z) : okD (n + 1) (.str z) = z.all (· < 0x110000) := rfl
@[simp] theorem okD_tup (n xs) : okD (n + 1) (.tup xs) = (decide (xs.length < 1000000) && xs.all (okD n)) := rfl
@[simp] theorem okD_lst (n xs) : okD (n + 1) (.lst xs) = (decide (xs.length < 1000000) && xs.all (okD n)) := rfl
theorem atK_get {xs : List D} {i : Nat} {d : D} {s : Sto} (h : xs[i]? = some d) : atK xs (i : Int) s = .ok d s := at_lit xs i d h
theorem same_run {F : List D → M D} {x y : D} {xs : List D} {S : Sto} (hx : ∀ i d s', xs[i]? = some d → s' = S → idxO x (.int (i : Nat)) s' = .ok d s') (hy : ∀ i d s', xs[i]? = some d → idxO y (.int (i : Nat)) s' = .ok d s') (hF : ∀ d ∈ xs, F [d, d] S = .ok (.bl true) S) (e : En) (h0 : e[0]? = some (.va x)) (h1 : e[1]? = some (.va y)) (h3 : e.length = 4) :
    compL (.nm 3) yes (biE F (consA (binE idxO (vE 0) (vE 3)) (consA (binE idxO (vE 1) (vE 3)) nilA))) (fun _ => true) e (iRow 0 xs.length) S = .ok (xs.map fun _ => .bl true) S := by
  match e, h3 with
  | [a, b, c, d], _ =>
    cases h0; cases h1
    have hI : iRow 0 xs.length = (List.range xs.length).map fun i => .int ((i : Nat) : Int) := by simp [iRow]
    obtain ⟨ys, S2, e4, hl4, hp, hI2⟩ := ML.compL_run (tg := .nm 3) (elt := biE F (consA (binE idxO (vE 0) (vE 3)) (consA (binE idxO (vE 1) (vE 3)) nilA))) (ok := fun _ => true) (e := [.va x, .va y, c, d]) (Pr := fun _ z => z = .bl true) (I := fun _ s => s = S) (ds := iRow 0 xs.length) 0 rfl (fun i q s hd hs => by
      subst hs
      obtain ⟨rfl, hi⟩ := ML.iRow_get hd
      have hg := List.getElem?_eq_getElem hi
      refine ⟨rfl, [.va x, .va y, c, .va (.int (i : Nat))], _, s, by simp, ?_, rfl, rfl⟩
      simp [hx i _ s hg rfl, hy i _ s hg, hF _ (List.getElem_mem hi)])
    subst hI2
    rw [e4]
    congr 1
    apply List.ext_getElem?
    intro i
    rcases Nat.lt_or_ge i ys.length with q | q
    · have := hp i _ (List.getElem?_eq_getElem q)
      rw [List.getElem?_eq_getElem q, this, List.getElem?_map, List.getElem?_eq_getElem (by rw [hl4, ML.iRow_len] at q; exact q)]
      rfl
    · rw [List.getElem?_eq_none q, List.getElem?_eq_none (by rw [List.length_map]; rw [hl4, ML.iRow_len] at q; exact q)]
theorem sameW_tup (C : Es) (xs ys : List D) (S : Sto) (eC : C [.va (.tup xs), .va (.tup xs), .un, .un] S = .ok ys S) (al : allO [.lst ys] S = .ok (.bl true) S) : fn 2 4 (ML.sameW C) [.tup xs, .tup xs] S = .ok (.bl true) S := by
  simp [ML.sameW, eC, al]
theorem sameW_lst (C : Es) (xs ys : List D) (S : Sto) (eC : C [.va (.lst xs), .va (.lst xs), .un, .un] S = .ok ys S) (al : allO [.lst ys] S = .ok (.bl true) S) : fn 2 4 (ML.sameW C) [.lst xs, .lst xs] S = .ok (.bl true) S := by
  simp [ML.sameW, eC, al]
theorem all_true (xs : List D) (S : Sto) : allO [.lst (xs.map fun _ => .bl true)] S = .ok (.bl true) S := by simp
theorem sameC_run {F : List D → M D} {x y : D} {xs : List D} {S : Sto} (hx : ∀ i d s', xs[i]? = some d → s' = S → idxO x (.int (i : Nat)) s' = .ok d s') (hy : ∀ i d s', xs[i]? = some d → idxO y (.int (i : Nat)) s' = .ok d s') (hF : ∀ d ∈ xs, F [d, d] S = .ok (.bl true) S) (hl : lenO [y] S = .ok (.int xs.length) S) (hn : xs.length < 1000000) :
    ML.sameC F [.va x, .va y, .un, .un] S = .ok (xs.map fun _ => .bl true) S := by
  have h1 : biE lenO (consA (vE 1) nilA) [.va x, .va y, .un, .un] S = .ok (.int xs.length) S := by simp [hl]
  have h2 := ML.rng1_run h1 (by omega) (by omega)
  have h3 := same_run (F := F) hx hy hF [.va x, .va y, .un, .un] rfl rfl rfl
  refine ML.cmpF_run h2 ?_ rfl (by rw [List.length_map]; unfold LIM; omega)
  rw [show ((xs.length : Nat) : Int).toNat = xs.length by omega]
  exact h3
theorem same_bl' (C : Es) (b : Bool) (S : Sto) : fn 2 4 (ML.sameW C) [.bl b, .bl b] S = .ok (.bl true) S := by simp [ML.sameW]
theorem mlsame_ok : ∀ (n : Nat) (d : D) (S : Sto), okD n d = true → ML.same n [d, d] S = .ok (.bl true) S := by
  intro n
  induction n with
  | zero => intro d S h; cases d <;> cases h
  | succ n ih =>
    intro d S h
    cases d with
    | non => exact ML.same_non n S
    | bl b => exact same_bl' _ b S
    | int z => exact ML.same_int n z S
    | str z => exact ML.same_str n z S h
    | dct _ _ => cases h
    | ref _ => cases h
    | tup xs =>
      rw [okD_tup, Bool.and_eq_true, decide_eq_true_eq, List.all_eq_true] at h
      exact sameW_tup _ xs _ S (sameC_run (F := ML.same n) (fun i d s hd _ => by rw [x_ixT]; exact atK_get hd) (fun i d s hd => by rw [x_ixT]; exact atK_get hd) (fun d hd => ih d S (h.2 d hd)) rfl h.1) (all_true xs S)
    | lst xs =>
      rw [okD_lst, Bool.and_eq_true, decide_eq_true_eq, List.all_eq_true] at h
      exact sameW_lst _ xs _ S (sameC_run (F := ML.same n) (fun i d s hd _ => by rw [x_ixL]; exact atK_get hd) (fun i d s hd => by rw [x_ixL]; exact atK_get hd) (fun d hd => ih d S (h.2 d hd)) rfl h.1) (all_true xs S)
theorem l_same : ∀ n, m__law_same n = ML.same n
  | 0 => rfl
  | n + 1 => by
    have ih := l_same n
    unfold m__law_same ML.same
    rw [ih]
    rfl
theorem same_ok (n : Nat) (d : D) (S : Sto) (h : okD n d = true) : m__law_same n [d, d] S = .ok (.bl true) S := by
  rw [l_same]; exact mlsame_ok n d S h
mutual
theorem pyEq_refl : ∀ (n : Nat) (d : D), okD n d = true → pyEq d d = true
  | 0, d, h => by cases d <;> cases h
  | n + 1, .non, h => rfl
  | n + 1, .bl _, h => by simp [pyEq]
  | n + 1, .int _, h => by simp [pyEq]
  | n + 1, .str _, h => by simp [pyEq]
  | n + 1, .dct _ _, h => by cases h
  | n + 1, .ref _, h => by cases h
  | n + 1, .tup xs, h => by
    simp only [okD_tup, Bool.and_eq_true, decide_eq_true_eq, List.all_eq_true] at h
    simpa [pyEq] using pyEqs_refl n xs h.2
  | n + 1, .lst xs, h => by
    simp only [okD_lst, Bool.and_eq_true, decide_eq_true_eq, List.all_eq_true] at h
    simpa [pyEq] using pyEqs_refl n xs h.2
theorem pyEqs_refl : ∀ (n : Nat) (xs : List D), (∀ d ∈ xs, okD n d = true) → pyEqs xs xs = true
  | n, [], _ => rfl
  | n, d :: r, h => by simp [pyEqs, pyEq_refl n d (h d List.mem_cons_self), pyEqs_refl n r fun d hd => h d (List.mem_cons_of_mem _ hd)]
end
mutual
theorem okD_noRef : ∀ (n : Nat) (d : D), okD n d = true → noRef d = true ∧ shp n d = true
  | 0, d, h => by cases d <;> cases h
  | n + 1, .non, h => ⟨rfl, rfl⟩
  | n + 1, .bl _, h => ⟨rfl, rfl⟩
  | n + 1, .int _, h => ⟨rfl, rfl⟩
  | n + 1, .str z, h => ⟨rfl, h⟩
  | n + 1, .dct _ _, h => by cases h
  | n + 1, .ref _, h => by cases h
  | n + 1, .tup xs, h => by
    simp only [okD_tup, Bool.and_eq_true, decide_eq_true_eq, List.all_eq_true] at h
    simpa [noRef, shp] using okDs_noRef n xs h.2
  | n + 1, .lst xs, h => by
    simp only [okD_lst, Bool.and_eq_true, decide_eq_true_eq, List.all_eq_true] at h
    simpa [noRef, shp] using okDs_noRef n xs h.2
theorem okDs_noRef : ∀ (n : Nat) (xs : List D), (∀ d ∈ xs, okD n d = true) → noRefs xs = true ∧ shps n xs = true
  | n, [], _ => ⟨rfl, rfl⟩
  | n, d :: r, h => by
    have h1 := okD_noRef n d (h d List.mem_cons_self)
    have h2 := okDs_noRef n r fun d hd => h d (List.mem_cons_of_mem _ hd)
    simp [noRefs, shps, h1, h2]
end
theorem okD_mono : ∀ (n : Nat) (d : D), okD n d = true → okD (n + 1) d = true
  | 0, d, h => by cases d <;> cases h
  | n + 1, .non, h => rfl
  | n + 1, .bl _, h => rfl
  | n + 1, .int _, h => rfl
  | n + 1, .str z, h => h
  | n + 1, .dct _ _, h => by cases h
  | n + 1, .ref _, h => by cases h
  | n + 1, .tup xs, h => by
    simp only [okD_tup, Bool.and_eq_true, decide_eq_true_eq, List.all_eq_true] at h ⊢
    exact ⟨h.1, fun d hd => okD_mono n d (h.2 d hd)⟩
  | n + 1, .lst xs, h => by
    simp only [okD_lst, Bool.and_eq_true, decide_eq_true_eq, List.all_eq_true] at h ⊢
    exact ⟨h.1, fun d hd => okD_mono n d (h.2 d hd)⟩
theorem okD_le {n m : Nat} {d : D} (h : okD n d = true) (hm : n ≤ m) : okD m d = true := by
  induction hm with
  | refl => exact h
  | step _ ih => exact okD_mono _ _ ih
theorem eq_same {n : Nat} {d : D} {S : Sto} (h : okD n d = true) (hn : n ≤ 60 := by decide) : eqO d d S = .ok (.bl true) S := by
  have h2 := okD_le h hn
  obtain ⟨a, b⟩ := okD_noRef 60 _ h2
  have c := pyEq_refl 60 _ h2
  have : deepO S d = some d := by cases d <;> simp_all [deepO, noRef]
  simp [eqO, this, b, c]
theorem drawL {α β : Type} {enc : α → D} {dec : β → D} {tg : Tg} {elt : E} {e : En} {P : α → β → Prop} {n c : Nat} (K : Nat) : ∀ (l : List α) (k : Nat) (S : Sto), Feed n k S → k + c * l.length ≤ K →
    (∀ x ∈ l, ∀ k S, Feed n k S → k + c ≤ K → ∃ e1 z S', tg.put (enc x) e = some e1 ∧ elt e1 S = .ok (dec z) S' ∧ P x z ∧ Feed n (k + c) S' ∧ Gr n S S') →
    ∃ zs S', compL tg yes elt (fun _ => true) e (l.map enc) S = .ok (zs.map dec) S' ∧ zs.length = l.length ∧ (∀ p ∈ l.zip zs, P p.1 p.2) ∧ Feed n (k + c * l.length) S' ∧ Gr n S S'
  | [], k, S, h, _, _ => ⟨[], S, rfl, rfl, by simp, h, .refl _ _⟩
  | x :: l, k, S, h, hk, hs => by
    have hm : c * (l.length + 1) = c * l.length + c := by rw [Nat.mul_add, Nat.mul_one]
    rw [List.length_cons, hm] at hk
    obtain ⟨e1, z, S1, a1, a2, a3, a4, a5⟩ := hs x List.mem_cons_self k S h (by omega)
    obtain ⟨zs, S2, b1, b2, b3, b4, b5⟩ := drawL K l (k + c) S1 a4 (by omega) fun y hy => hs y (List.mem_cons_of_mem _ hy)
    refine ⟨z :: zs, S2, ?_, by simp [b2], ?_, b4.mono (by rw [List.length_cons, hm]; omega), a5.trans b5⟩
    · simp only [List.map_cons, compL, if_true, a1, yes, bdT, x_nx, x_pu, R.nx_ok, R.then_ok, a2, b1]
    · intro p hp
      simp at hp
      rcases hp with rfl | hp
      · exact a3
      · exact b3 p hp
theorem feed_ok (ns : List Int) : m__law_feed [.lst (ns.map .int)] [] = .ok (.ref 0) [ML.fd (cutL ns none (some 63)) 0 0 9132 0] := by
  simp [m__law_feed, ML.fd, slcF, part, listF, bd]
/-- a row of draws, one for each thing of a row -/
theorem rowD {α : Type} {enc : α → D} {elt : E} {e : En} {i n c : Nat} (lo hi : Int) (l : List α) {k : Nat} {S : Sto} (hf : Feed n k S) (hi1 : 1 < i) (he : e[1]? = some (.va (.ref n))) (hk : k + c * l.length ≤ 1000000)
    (h : ∀ (e : En) (k : Nat) (S : Sto), e[1]? = some (.va (.ref n)) → Feed n k S → k + c ≤ 1000000 → ∃ z S', elt e S = .ok (.int z) S' ∧ lo ≤ z ∧ z ≤ hi ∧ Feed n (k + c) S' ∧ Gr n S S') :
    ∃ (a : List Int) (S' : Sto), compL (.nm i) yes elt (fun _ => true) e (l.map enc) S = .ok (a.map .int) S' ∧ a.length = l.length ∧ (∀ z ∈ a, lo ≤ z ∧ z ≤ hi) ∧ Feed n (k + c * l.length) S' ∧ Gr n S S' := by
  obtain ⟨zs, S', p1, p2, p3, p4, p5⟩ := drawL (dec := D.int) (elt := elt) (tg := .nm i) (enc := enc) (e := e) (P := fun _ z => lo ≤ z ∧ z ≤ hi) (n := n) (c := c) 1000000 l k S hf hk (fun x hx k' S hf' hk' => by
    have h1 : (e.set i (.va (enc x)))[1]? = some (.va (.ref n)) := by rw [List.getElem?_set_ne (by omega)]; exact he
    obtain ⟨z, S2, q1, q2, q3, q4, q5⟩ := h _ k' S h1 hf' hk'
    exact ⟨e.set i (.va (enc x)), z, S2, by simp, q1, ⟨q2, q3⟩, q4, q5⟩)
  refine ⟨zs, S', p1, p2, fun z hz => ?_, p4, p5⟩
  obtain ⟨j, hj, rfl⟩ := List.mem_iff_getElem.mp hz
  exact p3 (l[j]'(by omega), zs[j]) (by rw [List.mem_iff_getElem]; exact ⟨j, by simp; omega, by simp⟩)
end PL
namespace PL
open MP ML
def plus (a b : List Int) : List Int := (a.zip b).map fun p => p.1 + p.2
@[simp] theorem r_plus (a b : List Int) (S : Sto) : m_plus [.tup (a.map .int), .tup (b.map .int)] S = grd (min a.length b.length ≤ 16777216) (.ok (.tup ((plus a b).map .int)) S) := by
  simp [m_plus, m_plus_c1, plus, Function.comp_def]
def times (a : List Int) (k : Int) : List Int := a.map (· * k)
@[simp] theorem r_times (a : List Int) (k : Int) (S : Sto) : m_times [.tup (a.map .int), .int k] S = grd ((∀ z ∈ a, mulOk z k = true) ∧ a.length ≤ 16777216) (.ok (.tup ((times a k).map .int)) S) := by
  simp [m_times, m_times_c1, times, Function.comp_def]
@[simp] theorem r_number (z lo hi : Int) (S : Sto) : m_is_number [.int z, .int lo, .int hi] S = .ok (.bl (decide (lo ≤ z) && decide (z ≤ hi))) S := by
  simp [m_is_number]
def holdB (r : List Int) (g : Int) : Bool := decide ((r.length : Int) = g) && (r.all (fun z => decide (0 ≤ z) && decide (z ≤ 6)) && decide (0 < r.sum))
@[simp] theorem r_is_hold (r : List Int) (g : Int) (S : Sto) : m_is_hold [.tup (r.map .int), .int g] S = grd ((r.length : Int) = g → r.length ≤ 16777216) (.ok (.bl (holdB r g)) S) := by
  simp [m_is_hold, m_is_hold_c1, holdB]
  congr 3
  rw [Bool.eq_iff_iff]
  simp
  grind
def kLot : List Sy := [[107, 105, 110, 100], [119, 111, 114, 100]]
def bLot (z : Int) : List D := [.int z, .str [98, 97, 100, 32, 108, 111, 116]]
def flawL (l : List (List Int)) : Option Int := if 1 ≤ l.length ∧ l.length ≤ 5 ∧ 1 ≤ (gt l 0).length ∧ (gt l 0).length ≤ 3 then (fstB (fun r => !holdB r (gt l 0).length) l 0).map Int.ofNat else some (-1)
theorem r_look_lot (l : List (List Int)) (S : Sto) (h : ∀ r ∈ l, r.length ≤ 1000000) : m_look_lot [.tup (l.map row)] S = match flawL l with
    | some z => .exc 0 kLot (bLot z) S
    | none => .ok .non S := by
  simp [m_look_lot, enumL_map]
  refine grd_eq (by omega) ?_
  split
  · rename_i q
    rw [show flawL l = some (-1) by unfold flawL; rw [if_neg (by omega)]]
    rfl
  · rename_i q
    have e : flawL l = (fstB (fun r => !holdB r (gt l 0).length) l 0).map Int.ofNat := by unfold flawL; rw [if_pos (by omega)]
    rw [e, ← fstB_zip]
    have e0 : 0 < (l.length : Int) := by omega
    have e1 : ∀ S, atK (l.map row) 0 S = .ok (.tup ((gt l 0).map .int)) S := fun S => by rw [at_map row l 0 (by omega), grd_ok _ e0]; rfl
    rcases loop_find (α := List Int × Nat) (b := m_look_lot_b1) (tg := .tp [1, 2]) (enc := fun p => .tup [.int p.2, .tup (p.1.map .int)]) (ok := fun _ => true) (fun (a : Sl × Sl) => [.va (.tup (l.map row)), a.1, a.2]) S
      (fun p => !holdB p.1 (gt l 0).length) (fun e p => .ex e 0 kLot (bLot p.2) S) (fun _ _ => trivial) rfl l.zipIdx (.un, .un) (fun a x hx => by
        have hm : x.1 ∈ l := List.fst_mem_of_mem_zipIdx hx
        have hl := h _ hm
        refine ⟨_, rfl, fun hb => ⟨[.va (.tup (l.map row)), .va (.int x.2), .va (.tup (x.1.map .int))], ?_⟩, fun hb => ⟨(.va (.int x.2), .va (.tup (x.1.map .int))), ?_⟩⟩
        · simp at hb
          simp [m_look_lot_b1, e1, hb, kLot, bLot]
          exact grS_eq (by omega) rfl
        · simp at hb
          simp [m_look_lot_b1, e1, hb]
          exact grS_eq (by omega) rfl) with ⟨x, e, h1, h2⟩ | ⟨h1, a, h2⟩
    · rw [h1, h2]; rfl
    · rw [h1, h2]; rfl
theorem plus_len (a b : List Int) : (plus a b).length = min a.length b.length := by simp [plus]
theorem times_len (a : List Int) (k : Int) : (times a k).length = a.length := by simp [times]
theorem mulOk_of (i j : Int) (hi : i.natAbs < 2 ^ 400) (hj : j.natAbs < 2 ^ 400) : mulOk i j = true := ML.mulOk_of hi hj
theorem gt_plus {a b : List Int} {j : Nat} (h : a.length = b.length) (hj : j < a.length) : gt (plus a b) (j : Nat) = gt a (j : Nat) + gt b (j : Nat) := by
  rw [gt_eq (by simp [plus_len, ← h]; omega), gt_eq hj, gt_eq (by omega)]
  simp [plus]
theorem flawL_none {l : List (List Int)} (h : flawL l = none) : 1 ≤ l.length ∧ l.length ≤ 5 ∧ 1 ≤ (gt l 0).length ∧ (gt l 0).length ≤ 3 ∧ ∀ r ∈ l, holdB r (gt l 0).length = true := by
  unfold flawL at h
  split at h
  · rename_i q
    refine ⟨q.1, q.2.1, q.2.2.1, q.2.2.2, fun r hr => ?_⟩
    have := fstB_none.mp (Option.map_eq_none_iff.mp h) r hr
    simpa using this
  · cases h
theorem holdB_of {r : List Int} {g : Nat} (h1 : r.length = g) (h2 : ∀ z ∈ r, 0 ≤ z ∧ z ≤ 6) (h3 : 0 < r.sum) : holdB r g = true := by
  simp [holdB]
  exact ⟨by omega, h2, h3⟩
theorem sum_nonneg {l : List Int} (h : ∀ z ∈ l, 0 ≤ z) : 0 ≤ l.sum := by
  induction l with
  | nil => simp
  | cons x l ih =>
    have := ih fun z hz => h z (List.mem_cons_of_mem _ hz)
    have := h x List.mem_cons_self
    rw [List.sum_cons]
    omega
/-- a drawn lot is one -/
theorem holdOk_B {r : List Int} {g m : Int} (h : ML.HoldOk g m r) (hm : m ≤ 6) (hg : 0 < g) : holdB r g.toNat = true := by
  obtain ⟨h1, h2, h3⟩ := h
  have := sum_nonneg fun z hz => (h2 z hz).1
  exact holdB_of h1 (fun z hz => by have := h2 z hz; omega) (by omega)
theorem gt0_mem {α} [Inhabited α] {l : List α} (h : 0 < l.length) : gt l 0 ∈ l := by
  have : gt l 0 = l[0] := by simp [gt, h]
  rw [this]
  exact List.getElem_mem h
theorem lot_ok {l : List (List Int)} {g m : Int} (h0 : 0 < l.length) (h5 : l.length ≤ 5) (h : ∀ r ∈ l, ML.HoldOk g m r) (hm : m ≤ 6) (hg : 0 < g) (hg3 : g ≤ 3) : flawL l = none ∧ (gt l 0).length = g.toNat := by
  have e := (h _ (gt0_mem h0)).1
  refine ⟨?_, e⟩
  unfold flawL
  rw [if_pos ⟨by omega, h5, by omega, by omega⟩, fstB_none.mpr fun r hr => ?_]
  · rfl
  · rw [e, holdOk_B (h r hr) hm hg]; rfl
end PL
namespace PL
open MP ML
def dot (a b : List Int) : Int := ((a.zip b).map fun p => p.1 * p.2).sum
@[simp] theorem r_dot (a b : List Int) (S : Sto) : m_dot [.tup (a.map .int), .tup (b.map .int)] S = grd ((∀ x ∈ a.zip b, mulOk x.1 x.2 = true) ∧ min a.length b.length ≤ 16777216) (.ok (.int (dot a b)) S) := by
  simp [m_dot, m_dot_c1, dot]
def within (a b : List Int) : Bool := (a.zip b).all fun p => decide (p.1 ≤ p.2)
@[simp] theorem r_within (a b : List Int) (S : Sto) : m_within [.tup (a.map .int), .tup (b.map .int)] S = grd (min a.length b.length ≤ 16777216) (.ok (.bl (within a b)) S) := by
  simp [m_within, m_within_c1, within]
end PL
namespace PL
open MP ML
end PL
namespace PL
open MP ML
end PL
namespace PL
open MP ML
/-- only signs that a text may hold -/
def Okt (z : Sy) : Prop := z.length ≤ 100000 ∧ z.all (· < 1114112) = true
def figs (z : Sy) : Bool := decide (1 ≤ (z.length : Int)) && decide ((z.length : Int) ≤ 30) && z.all isDig && (decide (z.length = 1) || decide (z.head? ≠ some 48))
def strip (z : Sy) : Sy := if TL.pre [45] z = true then z.drop 1 else z
def numIn (z : Sy) : Option Int := if figs (strip z) = true ∧ z ≠ [45, 48] then some (if strip z = z then (PySem.NumText.digitsVal (strip z) : Int) else 0 - (PySem.NumText.digitsVal (strip z) : Int)) else none
theorem dig_mem (c : Nat) : decide (c ∈ [48, 49, 50, 51, 52, 53, 54, 55, 56, 57]) = isDig c := by
  unfold isDig
  rw [Bool.eq_iff_iff]
  simp
  omega
theorem figs_dig {z : Sy} : figs z = true ↔ (1 ≤ (z.length : Int) ∧ (z.length : Int) ≤ 30) ∧ (∀ c ∈ z, isDig c = true) ∧ (z.length = 1 ∨ z.head? ≠ some 48) := by
  unfold figs
  simp [and_assoc]
theorem not_dig {x : Nat} : (¬x = 48 ∧ ¬x = 49 ∧ ¬x = 50 ∧ ¬x = 51 ∧ ¬x = 52 ∧ ¬x = 53 ∧ ¬x = 54 ∧ ¬x = 55 ∧ ¬x = 56 ∧ ¬x = 57) ↔ isDig x = false := by
  unfold isDig
  rw [Bool.eq_false_iff]
  simp
  omega
theorem r_is_figures (z : Sy) (S : Sto) (h : Okt z) : m_is_figures [.str z] S = .ok (.bl (figs z)) S := by
  obtain ⟨h1, h2⟩ := h
  simp [m_is_figures, m_is_figures_c1]
  refine grd_eq ⟨⟨by omega, by omega⟩, fun _ _ _ => by omega⟩ ?_
  split
  · rename_i q
    have : figs z = false := by
      rw [Bool.eq_false_iff]
      intro f
      obtain ⟨f1, f2, _⟩ := figs_dig.mp f
      rcases q with q | ⟨x, q1, q2⟩
      · omega
      · rw [not_dig, f2 x q1] at q2
        cases q2
    rw [this]
  · rename_i q
    have q1 : (1 ≤ (z.length : Int) ∧ (z.length : Int) ≤ 30) ∧ ∀ c ∈ z, isDig c = true := by
      refine ⟨by omega, fun c hc => ?_⟩
      cases q2 : isDig c with
      | true => rfl
      | false => exact absurd (.inr ⟨c, hc, not_dig.mpr q2⟩) q
    split
    · rename_i q3
      have : figs z = true := figs_dig.mpr ⟨q1.1, q1.2, .inl (by omega)⟩
      rw [this]
    · rename_i q3
      cases z with
      | nil => simp at q1
      | cons c r =>
        have hc : c < 1114112 := by simp at h2; exact h2.1
        have e : figs (c :: r) = decide (c ≠ 48) := by
          rw [Bool.eq_iff_iff, figs_dig]
          simp at q1 q3 ⊢
          constructor
          · rintro ⟨_, _, q | q⟩
            · rw [q] at q3; simp at q3
            · exact q
          · exact fun q => ⟨q1.1, q1.2, .inr q⟩
        simp at h1
        rw [e]
        simp
        exact grd_eq ⟨by omega, hc⟩ rfl
theorem intZ_figs {z : Sy} (h : figs z = true) : intZ z = some (PySem.NumText.digitsVal z : Int) ∧ z.length ≤ 640 := by
  obtain ⟨h1, h2, _⟩ := figs_dig.mp h
  refine ⟨?_, by omega⟩
  cases z with
  | nil => simp at h1
  | cons c r =>
    have : digs (c :: r) = true := by
      unfold digs
      rw [Bool.and_eq_true, decide_eq_true_eq, List.all_eq_true]
      exact ⟨by simp, h2⟩
    unfold intZ
    exact if_pos this
theorem pre_45 (z : Sy) : (∃ r, z = 45 :: r) ∨ (TL.pre [45] z = false ∧ strip z = z ∧ z.take 1 ≠ [45]) := by
  cases z with
  | nil => exact .inr ⟨rfl, rfl, by simp⟩
  | cons c r =>
    by_cases q : c = 45
    · exact .inl ⟨r, by rw [q]⟩
    · have : TL.pre [45] (c :: r) = false := by simp [TL.pre, q]
      exact .inr ⟨this, by unfold strip; rw [this]; rfl, by simp [q]⟩
theorem pre_45c (r : Sy) : TL.pre [45] (45 :: r) = true := by simp [TL.pre]
theorem strip_c (r : Sy) : strip (45 :: r) = r := by unfold strip; rw [pre_45c]; rfl
theorem okt_tail {c : Nat} {r : Sy} (h : Okt (c :: r)) : Okt r := by
  obtain ⟨h1, h2⟩ := h
  simp at h1 h2
  exact ⟨by omega, by simpa using h2.2⟩
theorem r_number_in (z : Sy) (S : Sto) (h : Okt z) : m_number_in [.str z] S = .ok (nD (numIn z)) S := by
  have h1 := h.1
  have h2 := h.2
  rcases pre_45 z with ⟨r, rfl⟩ | ⟨p1, p2, _⟩
  · have ht := okt_tail h
    have e1 := fun S => r_is_figures r S ht
    have h3 := ht.2
    simp at h1 h2 h3
    have hne : ∀ r : Sy, r ≠ 45 :: r := fun r => by simp
    by_cases f : figs r = true
    · obtain ⟨i1, i2⟩ := intZ_figs f
      have e2 := fun S => o_intxS i1 S
      simp [m_number_in, e1, pre_45c, f, e2]
      by_cases q : r = [48]
      · have : numIn (45 :: r) = none := by unfold numIn; rw [if_neg (by simp [q])]
        rw [this]
        simp [q, nD]
      · have : numIn (45 :: r) = some (0 - (PySem.NumText.digitsVal r : Int)) := by unfold numIn; rw [strip_c, if_pos ⟨f, by simpa using q⟩, if_neg (by simp)]
        rw [this]
        simp [q, nD]
        exact grd_eq (by repeat' (first | omega | assumption | apply And.intro | intro _)) rfl
    · have : numIn (45 :: r) = none := by unfold numIn; rw [strip_c, if_neg (by simp [f])]
      simp at f
      simp [m_number_in, e1, pre_45c, f, this, nD]
      exact grd_eq (by omega) rfl
  · have e1 := fun S => r_is_figures z S h
    by_cases f : figs z = true
    · obtain ⟨i1, i2⟩ := intZ_figs f
      have e2 := fun S => o_intxS i1 S
      have n1 : z ≠ [45, 48] := by
        intro q
        subst q
        simp [TL.pre] at p1
      have : numIn z = some (PySem.NumText.digitsVal z : Int) := by unfold numIn; rw [p2, if_pos ⟨f, n1⟩, if_pos rfl]
      simp at h2
      simp [m_number_in, e1, p1, f, e2, n1, this, nD]
      exact grd_eq ⟨by omega, h2, by omega⟩ rfl
    · have : numIn z = none := by unfold numIn; rw [p2, if_neg (by simp [f])]
      simp at f
      simp [m_number_in, e1, p1, f, this, nD]
      exact grd_eq (by omega) rfl
theorem fcase (r : Sy) : (¬((1 ≤ (r.length : Int) ∧ (r.length : Int) ≤ 30) ∧ ∀ c ∈ r, isDig c = true) ∧ figs r = false) ∨ ∃ c t, r = c :: t ∧ t.length ≤ 29 ∧ isDig c = true ∧ (∀ x ∈ t, isDig x = true) ∧
    ((t = [] ∧ figs r = true) ∨ (t ≠ [] ∧ c = 48 ∧ figs r = false) ∨ (t ≠ [] ∧ c ≠ 48 ∧ figs r = true)) := by
  by_cases q : (1 ≤ (r.length : Int) ∧ (r.length : Int) ≤ 30) ∧ ∀ c ∈ r, isDig c = true
  · refine .inr ?_
    cases r with
    | nil => simp at q
    | cons c t =>
      refine ⟨c, t, rfl, by simp at q; omega, q.2 c (by simp), fun x hx => q.2 x (by simp [hx]), ?_⟩
      by_cases ht : t = []
      · exact .inl ⟨ht, figs_dig.mpr ⟨q.1, q.2, .inl (by simp [ht])⟩⟩
      · have hl : 0 < t.length := List.length_pos_iff.mpr ht
        by_cases hc : c = 48
        · refine .inr (.inl ⟨ht, hc, ?_⟩)
          rw [Bool.eq_false_iff]
          intro f
          rcases (figs_dig.mp f).2.2 with g | g
          · rw [List.length_cons] at g; omega
          · simp [hc] at g
        · exact .inr (.inr ⟨ht, hc, figs_dig.mpr ⟨q.1, q.2, .inr (by simpa using hc)⟩⟩)
  · refine .inl ⟨q, ?_⟩
    rw [Bool.eq_false_iff]
    intro f
    exact q ⟨(figs_dig.mp f).1, (figs_dig.mp f).2.1⟩
theorem lnum_c1 (w z : Sy) (S : Sto) : m__law_number_in_c1 [.va (.str w), .va (.str z), .un] S = grd (z.length ≤ 16777216) (.ok ((z.map isDig).map .bl) S) := by
  simp [m__law_number_in_c1]
  congr 2
  refine List.map_congr_left fun c _ => ?_
  have := dig_mem c
  simp at this
  rw [← this]
theorem all_digs {z : Sy} (h : ∀ x ∈ z, isDig x = true) (S : Sto) : allO [.lst ((z.map isDig).map .bl)] S = .ok (.bl true) S := by
  rw [o_all]
  congr 2
  rw [List.all_eq_true]
  intro x hx
  obtain ⟨c, hc, rfl⟩ := List.mem_map.mp hx
  exact h c hc
theorem r_lnumber_in (z : Sy) (S : Sto) (h : Okt z) : m__law_number_in [.str z] S = .ok (nD (numIn z)) S := by
  have h1 := h.1
  have h2 := h.2
  have hc0 : cutL z none (some 1) = z.take 1 := by
    cases z with
    | nil => rfl
    | cons c r => simp [cutL, endO]
  have hc1 : cutL z (some 1) none = z.drop 1 := by
    cases z with
    | nil => rfl
    | cons c r => simp [cutL, endO]
  rcases pre_45 z with ⟨r, rfl⟩ | ⟨p1, p2, p3⟩
  · have ht := okt_tail h
    have h3 := ht.2
    simp at h1 h2 h3 hc0 hc1
    rcases fcase r with ⟨f1, f2⟩ | ⟨c, t, rfl, f1, f2, f3, f4⟩
    · have e : numIn (45 :: r) = none := by unfold numIn; rw [strip_c, if_neg (by simp [f2])]
      simp [m__law_number_in, lnum_c1, hc0, hc1, e, nD]
      refine grd_eq ⟨by omega, ⟨by omega, fun _ _ => by omega⟩, fun _ _ _ => ⟨by omega, fun _ => h3⟩⟩ (if_pos ?_)
      refine Classical.byContradiction fun hn => f1 ⟨by omega, fun c hc => ?_⟩
      cases q : isDig c with
      | true => rfl
      | false => exact absurd (.inr ⟨c, hc, q⟩) hn
    · have ha := all_digs (z := c :: t) (fun x hx => by rcases List.mem_cons.mp hx with rfl | q; exact f2; exact f3 x q)
      simp at h1 h2 h3 hc0 hc1
      simp [f2] at ha
      have i1 : intZ (45 :: c :: t) = some (-(PySem.NumText.digitsVal (c :: t) : Int)) := by
        have d1 : digs (45 :: c :: t) = false := by simp [digs, isDig]
        have d2 : digs (c :: t) = true := by simp [digs, f2]; exact f3
        unfold intZ
        simp [d1, d2]
      have e2 := fun S => o_intxS i1 S
      rcases f4 with ⟨rfl, f5⟩ | ⟨f4, rfl, f5⟩ | ⟨f4, f6, f5⟩
      · simp at ha
        simp [m__law_number_in, lnum_c1, hc0, hc1, f2, f3, ha, e2]
        refine grd_eq h2.1 ?_
        by_cases q : c = 48
        · rw [if_pos q, show numIn [45, c] = none by unfold numIn; rw [if_neg (by simp [q])]]
          rfl
        · rw [if_neg q, show numIn [45, c] = some (0 - (PySem.NumText.digitsVal [c] : Int)) by unfold numIn; rw [strip_c, if_pos ⟨f5, by simpa using q⟩, if_neg (by simp)]]
          rw [Int.zero_sub]; rfl
      · have hl : 0 < t.length := List.length_pos_iff.mpr f4
        simp [m__law_number_in, lnum_c1, hc0, hc1, f2, f3, ha, e2]
        rw [if_neg (by omega), if_pos (by omega), show numIn (45 :: 48 :: t) = none by unfold numIn; rw [strip_c, if_neg (by simp [f5])]]
        exact grd_eq (by repeat' (first | omega | assumption | apply And.intro | intro _)) rfl
      · have hl : 0 < t.length := List.length_pos_iff.mpr f4
        simp [m__law_number_in, lnum_c1, hc0, hc1, f2, f3, f6, ha, e2]
        rw [if_neg (by omega), show numIn (45 :: c :: t) = some (0 - (PySem.NumText.digitsVal (c :: t) : Int)) by unfold numIn; rw [strip_c, if_pos ⟨f5, by simp [f6]⟩, if_neg (by simp)], Int.zero_sub]
        have h4 := h2.1
        have h5 := h2.2
        exact grd_eq (by repeat' (first | omega | assumption | apply And.intro | intro _)) rfl
  · have p3' : z.take 1 ≠ [45] := p3
    have hz : Okt z := h
    have n1 : z ≠ [45, 48] := by
      intro q
      subst q
      simp at p3
    simp at h2
    rcases fcase z with ⟨f1, f2⟩ | ⟨c, t, rfl, f1, f2, f3, f4⟩
    · have e : numIn z = none := by unfold numIn; rw [p2, if_neg (by simp [f2])]
      simp [m__law_number_in, lnum_c1, hc0, hc1, e, nD, p3]
      have h6 : ∀ x ∈ z.take 1, x < 1114112 := fun x hx => h2 x (List.mem_of_mem_take hx)
      refine grd_eq (by repeat' (first | omega | assumption | apply And.intro | intro _)) (if_pos ?_)
      refine Classical.byContradiction fun hn => f1 ⟨by omega, fun c hc => ?_⟩
      cases q : isDig c with
      | true => rfl
      | false => exact absurd (.inr ⟨c, hc, q⟩) hn
    · have ha := all_digs (z := c :: t) (fun x hx => by rcases List.mem_cons.mp hx with rfl | q; exact f2; exact f3 x q)
      simp at h1 h2 hc0 hc1 p3
      simp [f2] at ha
      have e := fun (f5 : figs (c :: t) = true) => show numIn (c :: t) = some (PySem.NumText.digitsVal (c :: t) : Int) by unfold numIn; rw [p2, if_pos ⟨f5, n1⟩, if_pos rfl]
      have h4 := h2.1
      have h5 := h2.2
      rcases f4 with ⟨rfl, f5⟩ | ⟨f4, rfl, f5⟩ | ⟨f4, f6, f5⟩
      · simp at ha
        have e2 := fun S => o_intxS (intZ_figs f5).1 S
        simp [m__law_number_in, lnum_c1, hc0, hc1, f2, f3, ha, e2, p3, e f5, nD]
        exact grd_eq (by repeat' (first | omega | assumption | apply And.intro | intro _)) rfl
      · have hl : 0 < t.length := List.length_pos_iff.mpr f4
        simp [m__law_number_in, lnum_c1, hc0, hc1, f2, f3, ha, p3]
        rw [if_neg (by omega), if_pos (by omega), show numIn (48 :: t) = none by unfold numIn; rw [p2, if_neg (by simp [f5])]]
        exact grd_eq (by repeat' (first | omega | assumption | apply And.intro | intro _)) rfl
      · have hl : 0 < t.length := List.length_pos_iff.mpr f4
        have e2 := fun S => o_intxS (intZ_figs f5).1 S
        simp [m__law_number_in, lnum_c1, hc0, hc1, f2, f3, f6, ha, e2, p3, e f5, nD]
        rw [if_neg (by omega)]
        exact grd_eq (by repeat' (first | omega | assumption | apply And.intro | intro _)) rfl
def words (k : Nat) (z : Sy) : List Sy := TL.spl [k] 0 [] z
def rowIn (z : Sy) : List (Option Int) := (words 44 z).map numIn
def kText : List Sy := [[97, 116], [119, 111, 114, 100]]
def bText : List D := [.int 0, .str [98, 97, 100, 32, 116, 101, 120, 116]]
theorem spl_len (k : Nat) : ∀ (z acc : Sy), (TL.spl [k] 0 acc z).length ≤ z.length + 1 ∧ ∀ w ∈ TL.spl [k] 0 acc z, w.length ≤ acc.length + z.length ∧ ∀ c ∈ w, c ∈ acc ∨ c ∈ z
  | [], acc => by
    rw [TL.spl_nil]
    refine ⟨by simp, fun w hw => ?_⟩
    rw [List.mem_singleton.mp hw]
    exact ⟨by simp, fun c hc => .inl hc⟩
  | c :: z, acc => by
    by_cases h : TL.pre [k] (c :: z) = true
    · rw [TL.spl_hit h]
      have ih := spl_len k z []
      refine ⟨by simpa using ih.1, fun w hw => ?_⟩
      rcases List.mem_cons.mp hw with rfl | hw
      · exact ⟨by omega, fun c hc => .inl hc⟩
      · have := ih.2 w hw
        refine ⟨by have := this.1; simp at this ⊢; omega, fun x hx => ?_⟩
        rcases this.2 x hx with q | q
        · cases q
        · exact .inr (List.mem_cons_of_mem _ q)
    · rw [TL.spl_miss (by simpa using h)]
      have ih := spl_len k z (acc ++ [c])
      refine ⟨by simp; have := ih.1; omega, fun w hw => ?_⟩
      have := ih.2 w hw
      refine ⟨by have := this.1; simp at this ⊢; omega, fun x hx => ?_⟩
      rcases this.2 x hx with q | q
      · rcases List.mem_append.mp q with q | q
        · exact .inl q
        · exact .inr (by simp at q; simp [q])
      · exact .inr (List.mem_cons_of_mem _ q)
theorem words_ok {k : Nat} {z : Sy} (h : Okt z) : (words k z).length ≤ 100001 ∧ ∀ w ∈ words k z, Okt w := by
  have := spl_len k z []
  refine ⟨by have := this.1; have := h.1; unfold words; omega, fun w hw => ?_⟩
  have hw2 := this.2 w hw
  refine ⟨by have := hw2.1; have := h.1; simp at *; omega, ?_⟩
  rw [List.all_eq_true]
  intro c hc
  have h2 := h.2
  rw [List.all_eq_true] at h2
  rcases hw2.2 c hc with q | q
  · cases q
  · exact h2 c q
theorem none_or : ∀ vs : List (Option Int), none ∈ vs ∨ ∃ l : List Int, vs = l.map some
  | [] => .inr ⟨[], rfl⟩
  | none :: vs => .inl (by simp)
  | some z :: vs => by
    rcases none_or vs with h | ⟨l, rfl⟩
    · exact .inl (by simp [h])
    · exact .inr ⟨z :: l, rfl⟩
theorem map_nD (l : List Int) : (l.map some).map nD = l.map .int := by simp [nD, Function.comp_def]
theorem r_read_row (z : Sy) (S : Sto) (h : Okt z) : (none ∈ rowIn z ∧ m_read_row [.str z] S = .exc 6 kText bText S) ∨ ∃ l : List Int, rowIn z = l.map some ∧ m_read_row [.str z] S = .ok (.tup (l.map .int)) S := by
  obtain ⟨h1, h2⟩ := words_ok (k := 44) h
  have hz := h.1
  have e1 : runL (fun w s => R.nx (m_number_in [D.str w] s)) (fun _ => true) (words 44 z) S = .ok ((rowIn z).map nD) S := by
    rw [runL_val (f := fun w => nD (numIn w)) (fun w hw t => by rw [r_number_in w t (h2 w hw)]; rfl)]
    simp [rowIn, Function.comp_def]
  have hl : (rowIn z).length ≤ 100001 := by unfold rowIn; rw [List.length_map]; exact h1
  unfold words at e1 h1
  rcases none_or (rowIn z) with hn | ⟨l, hn⟩
  · refine .inl ⟨hn, ?_⟩
    have hl2 : (rowIn z).length ≤ 16777216 := by omega
    simp [m_read_row, m_read_row_c1, e1, hn, hl2, kText, bText]
    exact grd_eq (by omega) rfl
  · refine .inr ⟨l, hn, ?_⟩
    have e4 := fun s => o_inNT (l.map some) s
    rw [map_nD] at e4
    simp at e4
    rw [hn, map_nD] at e1
    have hl2 : l.length ≤ 16777216 := by rw [hn, List.length_map] at hl; omega
    simp [m_read_row, m_read_row_c1, e1, e4, hl2]
    exact grd_eq (by omega) rfl
def rowT (l : List Int) : Sy := TL.joinL [44] (l.map numZ)
theorem log_small {i : Int} (h : i.natAbs < 10 ^ 30) : i.natAbs.log2 < 1920 := by
  by_cases q : i.natAbs = 0
  · rw [q]; decide
  · refine (Nat.log2_lt q).mpr ?_
    have : (10 : Nat) ^ 30 < 2 ^ 1920 := by decide +kernel
    omega
theorem numL_all (n : Nat) : ∀ c ∈ TL.numL n, isDig c = true := fun c hc => by
  have := TL.numL_digits n c hc
  simp [isDig, this]
theorem numL_head : ∀ n : Nat, 0 < n → ∃ c t, TL.numL n = c :: t ∧ c ≠ 48 := fun n => by
  induction n using Nat.strongRecOn with
  | _ n ih =>
    intro h0
    by_cases h : n < 10
    · rw [TL.numL_lt h]
      exact ⟨_, _, rfl, by omega⟩
    · rw [TL.numL_step (by omega)]
      obtain ⟨c, t, e, hc⟩ := ih (n / 10) (by omega) (by omega)
      rw [e]
      exact ⟨c, _, rfl, hc⟩
theorem figs_num {n : Nat} (h : n < 10 ^ 30) : figs (TL.numL n) = true := by
  have hl := TL.numL_len (k := 30) (by decide) h
  have h1 : 0 < (TL.numL n).length := List.length_pos_iff.mpr (TL.numL_ne n)
  refine figs_dig.mpr ⟨by omega, numL_all n, ?_⟩
  by_cases h0 : n = 0
  · left; rw [h0, TL.numL_lt (by decide)]; rfl
  · obtain ⟨c, t, e, hc⟩ := numL_head n (by omega)
    right; rw [e]; simpa using hc
theorem numIn_num {z : Int} (h : z.natAbs < 10 ^ 30) : numIn (numZ z) = some z := by
  have hf := figs_num h
  unfold numZ
  by_cases q : z < 0
  · rw [if_pos q]
    have n1 : TL.numL z.natAbs ≠ [48] := fun e => by
      have : TL.numL z.natAbs = TL.numL 0 := by rw [e, TL.numL_lt (by decide)]
      have := TL.numL_inj this
      omega
    unfold numIn
    rw [strip_c, if_pos ⟨hf, by simpa using n1⟩, if_neg (by simp), TL.numL_val]
    congr 1; omega
  · rw [if_neg q]
    have p2 : strip (TL.numL z.natAbs) = TL.numL z.natAbs ∧ TL.numL z.natAbs ≠ [45, 48] := by
      rcases pre_45 (TL.numL z.natAbs) with ⟨r, e⟩ | ⟨_, e, p3⟩
      · have := numL_all z.natAbs 45 (by rw [e]; simp)
        simp [isDig] at this
      · exact ⟨e, fun e2 => by rw [e2] at p3; simp at p3⟩
    unfold numIn
    rw [p2.1, if_pos ⟨hf, p2.2⟩, if_pos rfl, TL.numL_val]
    congr 1; omega
theorem numZ_free {z : Int} {k : Nat} (h : k < 45 ∨ 57 < k) : k ∉ numZ z := by
  unfold numZ
  have := TL.numL_free (n := z.natAbs) (s := k) (by omega)
  split
  · simp; exact ⟨by omega, this⟩
  · exact this
theorem numZ_len {z : Int} (h : z.natAbs < 10 ^ 30) : (numZ z).length ≤ 31 := by
  have hl := TL.numL_len (k := 30) (by decide) h
  unfold numZ
  split
  · simp; omega
  · omega
theorem numZ_okc (z : Int) : ∀ c ∈ numZ z, c < 58 := fun c hc => by
  refine Classical.byContradiction fun h => ?_
  exact numZ_free (z := z) (k := c) (by omega) hc
theorem joinL_len (s : Nat) (m : Nat) : ∀ zs : List Sy, (∀ z ∈ zs, z.length ≤ m) → (TL.joinL [s] zs).length ≤ zs.length * (m + 1)
  | [], _ => by simp [TL.joinL]
  | [z], h => by simp [TL.joinL]; have := h z (by simp); omega
  | z :: y :: r, h => by
    have ih := joinL_len s m (y :: r) fun w hw => h w (List.mem_cons_of_mem _ hw)
    have := h z (by simp)
    show (z ++ ([s] ++ TL.joinL [s] (y :: r))).length ≤ _
    simp only [List.length_append, List.length_cons, List.length_nil] at ih ⊢
    have e : (r.length + 1 + 1) * (m + 1) = (r.length + 1) * (m + 1) + (m + 1) := by rw [Nat.add_mul, Nat.one_mul]
    rw [e]
    omega
theorem joinL_mem (s : Nat) : ∀ (zs : List Sy) (c : Nat), c ∈ TL.joinL [s] zs → c = s ∨ ∃ z ∈ zs, c ∈ z
  | [], c, h => by simp [TL.joinL] at h
  | [z], c, h => .inr ⟨z, by simp, h⟩
  | z :: y :: r, c, h => by
    have h : c ∈ z ++ ([s] ++ TL.joinL [s] (y :: r)) := h
    rcases List.mem_append.mp h with h | h
    · exact .inr ⟨z, by simp, h⟩
    · rcases List.mem_append.mp h with h | h
      · exact .inl (by simpa using h)
      · rcases joinL_mem s (y :: r) c h with h | ⟨w, hw, h⟩
        · exact .inl h
        · exact .inr ⟨w, List.mem_cons_of_mem _ hw, h⟩
/-- rows of numbers below 10^30 in size -/
def RowOk (l : List Int) : Prop := l.length ≤ 1000 ∧ ∀ z ∈ l, z.natAbs < 10 ^ 30
theorem rowT_ok {l : List Int} (h : RowOk l) : Okt (rowT l) := by
  refine ⟨?_, ?_⟩
  · have := joinL_len 44 31 (l.map numZ) fun w hw => by
      obtain ⟨z, hz, rfl⟩ := List.mem_map.mp hw
      exact numZ_len (h.2 z hz)
    rw [List.length_map] at this
    have h2 : l.length * (31 + 1) ≤ 1000 * 32 := Nat.mul_le_mul_right _ h.1
    unfold rowT
    omega
  · rw [List.all_eq_true]
    intro c hc
    rcases joinL_mem 44 _ c hc with rfl | ⟨w, hw, hc⟩
    · rfl
    · obtain ⟨z, hz, rfl⟩ := List.mem_map.mp hw
      have := numZ_okc z c hc
      simp; omega
theorem rowIn_rowT {l : List Int} (h : RowOk l) (h0 : l ≠ []) : rowIn (rowT l) = l.map some := by
  unfold rowIn words rowT
  rw [TL.spl_join (by simpa using h0) fun p hp => by
    obtain ⟨z, hz, rfl⟩ := List.mem_map.mp hp
    exact numZ_free (by decide), List.map_map]
  exact List.map_congr_left fun z hz => numIn_num (h.2 z hz)
theorem sum_len {l : List Int} (h0 : RowOk l) : ((l.map numZ).map (·.length)).sum ≤ 31 * l.length := by
  obtain ⟨h00, h⟩ := h0
  clear h00
  induction l with
  | nil => simp
  | cons z l ih =>
    have := numZ_len (h z (by simp))
    have := ih fun y hy => h y (List.mem_cons_of_mem _ hy)
    simp only [List.map_cons, List.sum_cons, List.length_cons]
    omega
theorem r_row_text (l : List Int) (S : Sto) (h : RowOk l) : m_row_text [.tup (l.map .int)] S = .ok (.str (rowT l)) S := by
  have hs := sum_len h
  have hn := h.1
  have e1 := fun S => joinK_strs [44] (l.map numZ) S
  have hg : ((l.map numZ).map (·.length)).sum + (l.map numZ).length * [44].length ≤ 16777216 := by simp only [List.length_map, List.length_cons, List.length_nil] at hs ⊢; omega
  simp only [grd_ok _ hg] at e1
  have e2 : ∀ S, joinK [44] (l.map fun x => D.str (numZ x)) S = .ok (.str (rowT l)) S := fun S => by
    have := e1 S
    rw [List.map_map] at this
    exact this
  simp [m_row_text, m_row_text_c1, e2]
  exact grd_eq ⟨fun z hz => log_small (h.2 z hz), by omega⟩ rfl
theorem runL_at {α : Type} {F : α → Sto → R D} {f : α → D} {ok : Sto → Bool} {S : Sto} (hk : ok S = true) : ∀ {l : List α}, (∀ x ∈ l, F x S = .ok (f x) S) → runL F ok l S = .ok (l.map f) S
  | [], _ => rfl
  | x :: l, h => by
    simp only [runL, hk, if_true, h x List.mem_cons_self, R.then_ok, runL_at hk fun y hy => h y (List.mem_cons_of_mem _ hy), List.map_cons]
theorem watch_ref (p : Nat) (S : Sto) : watch (.ref p) S S = true := decide_eq_true (p := S[p]? = S[p]?) rfl
end PL
namespace PL
open MP ML
def seqO {α : Type} : List (Option α) → Option (List α)
  | [] => some []
  | none :: _ => none
  | some x :: r => (seqO r).map (x :: ·)
theorem seqO_some {α : Type} : ∀ l : List α, seqO (l.map some) = some l
  | [] => rfl
  | x :: l => by rw [List.map_cons, seqO, seqO_some l]; rfl
theorem seqO_none {α : Type} : ∀ {l : List (Option α)}, none ∈ l → seqO l = none
  | none :: _, _ => rfl
  | some x :: r, h => by
    have : none ∈ r := by simpa using h
    rw [seqO, seqO_none this]; rfl
theorem seqO_inv {α : Type} : ∀ {l : List (Option α)} {r : List α}, seqO l = some r → l = r.map some
  | [], r, h => by cases h; rfl
  | none :: _, r, h => by cases h
  | some x :: l, r, h => by
    rw [seqO] at h
    cases q : seqO l with
    | none => rw [q] at h; cases h
    | some t => rw [q] at h; cases h; rw [seqO_inv q]; rfl
theorem runL_opt {α Y : Type} {F : α → Sto → R D} {g : α → Option Y} {enc : Y → D} {c : Nat} {ns : List Sy} {vs : List D} : ∀ {l : List α} {S : Sto}, (∀ x ∈ l, ∀ t, F x t = match g x with | some y => .ok (enc y) t | none => .exc c ns vs t) →
    runL F (fun _ => true) l S = match seqO (l.map g) with | some ys => .ok (ys.map enc) S | none => .exc c ns vs S
  | [], _, _ => rfl
  | x :: l, S, h => by
    have hx := h x List.mem_cons_self S
    have ih := runL_opt (l := l) (S := S) fun y hy => h y (List.mem_cons_of_mem _ hy)
    rw [List.map_cons]
    cases q : g x with
    | none =>
      rw [q] at hx
      simp only [runL, if_true, hx, R.then_exc]
      rfl
    | some y =>
      rw [q] at hx
      simp only [runL, if_true, hx, R.then_ok, ih, seqO]
      cases seqO (l.map g) <;> rfl
theorem spl_ne (k : Nat) : ∀ (z acc : Sy), TL.spl [k] 0 acc z ≠ []
  | [], acc => by rw [TL.spl_nil]; simp
  | c :: z, acc => by
    by_cases h : TL.pre [k] (c :: z) = true
    · rw [TL.spl_hit h]; simp
    · rw [TL.spl_miss (by simpa using h)]; exact spl_ne k z _
theorem words_ne (k : Nat) (z : Sy) : words k z ≠ [] := spl_ne k z []
def rowI (z : Sy) : Option (List Int) := seqO (rowIn z)
def lotI (z : Sy) : Option (List (List Int)) := seqO ((words 32 z).map rowI)
theorem r_read_row' (z : Sy) (S : Sto) (h : Okt z) : m_read_row [.str z] S = match rowI z with
    | some l => .ok (.tup (l.map .int)) S
    | none => .exc 6 kText bText S := by
  unfold rowI
  rcases r_read_row z S h with ⟨h1, h2⟩ | ⟨l, h1, h2⟩
  · rw [seqO_none h1, h2]
  · rw [h1, seqO_some, h2]
theorem rowI_len {z : Sy} {l : List Int} (h : Okt z) (e : rowI z = some l) : l.length ≤ 100001 ∧ 1 ≤ l.length := by
  have e2 := seqO_inv e
  have h1 : (rowIn z).length = l.length := by rw [e2, List.length_map]
  have h2 := (words_ok (k := 44) h).1
  have h3 : words 44 z ≠ [] := words_ne 44 z
  have h4 : 0 < (words 44 z).length := List.length_pos_iff.mpr h3
  unfold rowIn at h1
  rw [List.length_map] at h1
  omega
end PL
namespace MP
def lookN : List Sy → List D → Sy → Option D
  | n :: ns, v :: vs, f => if f = n then some v else lookN ns vs f
  | _, _, _ => none
def putN (f : Sy) (d : D) : List Sy → List D → List Sy × List D
  | n :: ns, v :: vs => if n = f then (n :: ns, d :: vs) else (n :: (putN f d ns vs).1, v :: (putN f d ns vs).2)
  | _, _ => ([f], [d])
/-- an object of the class k -/
def insQ (k : Nat) : D → M (List Sy × List D)
  | .ref n => fun s => match s[n]? with
    | some ⟨true, .ins c ns vs⟩ => if c = k then .ok (ns, vs) s else .bad
    | _ => .bad
  | _ => no
def fldK (f : Sy) (p : List Sy × List D) : M D := match lookN p.1 p.2 f with
  | some d => pu d
  | none => no
def fldO (k : Nat) (f : Sy) (x : D) : M D := bd (insQ k x) (fldK f)
/-- o.f -/
def fldE (k : Nat) (f : Sy) (a : E) : E := fun e => bd (a e) (fldO k f)
def fputK (k : Nat) (f : Sy) (v x : D) (p : List Sy × List D) : M D := match x with
  | .ref n => fun s => if p.1.length < 1000 then .ok .non (s.set n ⟨true, .ins k (putN f v p.1 p.2).1 (putN f v p.1 p.2).2⟩) else .bad
  | _ => no
def fputO (k : Nat) (f : Sy) (x v : D) : M D := bd (insQ k x) (fputK k f v x)
/-- o.f = v -/
def fputS (k : Nat) (f : Sy) (o v : E) : St := ev v fun d => ev o fun a => ev (fun _ => fputO k f a d) fun _ => nxS
/-- no field of it has the name -/
def metK (m : Sy) (r : M D) (p : List Sy × List D) : M D := if lookN p.1 p.2 m = none then r else no
/-- o.m(..) -/
def metE (k : Nat) (m : Sy) (g : List D → M D) (o : E) (ms : Es) : E := fun e => bd (o e) fun x => bd (insQ k x) (metK m (bd (ms e) fun ds => g (x :: ds)))
/-- o.m(.., k = ..) -/
def metKE (k : Nat) (m : Sy) (g : List D → M D) (gD : List D → List D → List D) (o : E) (ms mk : Es) : E := fun e => bd (o e) fun x => bd (insQ k x) (metK m (bd (ms e) fun ds => bd (mk e) fun es => g (gD (x :: ds) es)))
def madeK (n : Nat) (d : D) : M D := match d with
  | .non => pu (.ref n)
  | _ => no
/-- C(..): the object, then __init__ -/
def makK (k : Nat) (g : List D → M D) (gD : List D → List D → List D) (ds es : List D) : M D := fun s => bd (g (gD (.ref s.length :: ds) es)) (madeK s.length) (s ++ [⟨true, .ins k [] []⟩])
def makE (k : Nat) (g : List D → M D) (gD : List D → List D → List D) (ms mk : Es) : E := fun e => bd (ms e) fun ds => bd (mk e) fun es => makK k g gD ds es
end MP
namespace MS
open PySem PySem.Spec PyProof.Rows L2
open MP (Sy D Cn Ob Sto R En bd pu no rz nx LIM arr)
open He (ga ma fAd Fa DefD)
end MS
namespace MS
open PySem PySem.Spec PyProof.Rows L2
open MP (Sy D Cn Ob Sto R En bd pu no rz nx LIM arr)
open He (ga ma fAd Fa DefD)
end MS
namespace MS
open PySem PySem.Spec PyProof.Rows L2
open MP (Sy D Cn Ob Sto R En bd pu no rz nx LIM arr)
open He (ga ma fAd Fa DefD)
end MS
namespace MP
def intKo : D → M D
  | .int n => if 0 ≤ n ∧ n < 4611686018427387904 then pu (.int n) else no
  | _ => no
def strKo : D → M D
  | .str z => pu (.str z)
  | _ => no
def bolK : D → M D
  | .bl b => pu (.bl b)
  | _ => no
def notK : D → M D
  | .bl b => pu (.bl (!b))
  | _ => no
/-- len(o), str(o), repr(o) by the method g -/
def spcO (j : Nat) (g : List D → M D) (k : D → M D) : List D → M D
  | [x] => bd (insQ j x) fun _ => bd (nx (g [x])) k
  | _ => no
/-- what an object is compared with -/
def sideQ (j : Nat) (y : D) : M D := fun s => match y with
  | .ref n => match s[n]? with
    | some ⟨true, .ins c _ _⟩ => if c = j then .ok y s else .bad
    | _ => .bad
  | .str _ => .ok y s
  | .tup _ => .ok y s
  | _ => .bad
/-- o == p, o != p -/
def cmpIO (j : Nat) (g : List D → M D) (k : D → M D) (x y : D) : M D := bd (insQ j x) fun _ => bd (sideQ j y) fun _ => bd (nx (g [x, y])) k
def isiIO (j : Nat) : List D → M D
  | [x] => fun s => match x with
    | .ref n => match s[n]? with
      | some ⟨true, .ins c _ _⟩ => if c = j then .ok (.bl true) s else .bad
      | _ => .bad
    | .tup _ => .ok (.bl false) s
    | .str _ => .ok (.bl false) s
    | _ => .bad
  | _ => no
end MP
namespace MS
open PySem PySem.Spec PyProof.Rows L2
open MP (Sy D Cn Ob Sto R En bd pu no rz nx LIM arr)
open He (ga ma fAd Fa DefD)
end MS
namespace PySem.W
open PySem PySem.Calls PyProof.Rows Builtin
end PySem.W
namespace MS
open PySem PySem.Spec PyProof.Rows L2
open MP (Sy D Cn Ob Sto R En bd pu no rz nx LIM arr)
open He (ga ma fAd Fa DefD)
end MS
namespace MP
def strsO : List D → M D
  | [.str z] => pu (.str z)
  | _ => no
def fmtO : D → M D
  | .int i => if i.natAbs.log2 < 1920 then pu (.str (numZ i)) else no
  | .str z => if z.length ≤ LIM then pu (.str z) else no
  | _ => no
def jstC (k : Sy → M D) (acc : Sy) : D → M D
  | .str z => if (acc ++ z).length ≤ LIM then k (acc ++ z) else no
  | _ => no
def jstK : List E → En → Sy → M D
  | [], _, acc => pu (.str acc)
  | m :: r, e, acc => bd (m e) (jstC (jstK r e) acc)
def jstE (ms : List E) : E := fun e => jstK ms e []
end MP
namespace MS
open PySem PySem.Spec PyProof.Rows L2
open MP (Sy D Cn Ob Sto R En bd pu no rz nx LIM)
end MS
namespace MX
open MP ML
def inK (k : Nat) (o : Option Ob) (s : Sto) : R (List Sy × List D) := match o with
  | some ⟨true, .ins c ns vs⟩ => if c = k then .ok (ns, vs) s else .bad
  | _ => .bad
def iqK (k : Nat) : D → Sto → R (List Sy × List D)
  | .ref n, s => inK k s[n]? s
  | _, _ => .bad
@[simp] theorem iqK_ref (k n : Nat) (s : Sto) : iqK k (.ref n) s = inK k s[n]? s := (rfl)
theorem insQ_eq (k : Nat) (d : D) (s : Sto) : insQ k d s = iqK k d s := by
  cases d <;> rfl
theorem insQ_fun : insQ = iqK := by funext k d s; exact insQ_eq k d s
def flV (f : Sy) (p : List Sy × List D) (s : Sto) : R D := match lookN p.1 p.2 f with
  | some d => .ok d s
  | none => .bad
theorem fldK_fun : fldK = flV := by
  funext f p s
  unfold fldK flV
  cases lookN p.1 p.2 f <;> rfl
theorem fldO_fun (k : Nat) (f : Sy) : fldO k f = fun x s => R.then (iqK k x s) (flV f) := by
  funext x s
  unfold fldO
  rw [bdT, insQ_fun, fldK_fun]
@[simp] theorem x_fldE (k : Nat) (f : Sy) (a : E) (e : En) (s : Sto) : fldE k f a e s = R.then (a e s) fun x s => R.then (iqK k x s) (flV f) := by
  simp only [fldE, bdT, fldO_fun]
noncomputable def fpV (k : Nat) (f : Sy) (v x : D) (p : List Sy × List D) (s : Sto) : R D := match x with
  | .ref n => grd (p.1.length < 1000) (.ok .non (s.set n ⟨true, .ins k (putN f v p.1 p.2).1 (putN f v p.1 p.2).2⟩))
  | _ => .bad
theorem fputK_fun : fputK = fpV := by
  funext k f v x p s
  cases x <;> try rfl
  show _ = grd (p.1.length < 1000) _
  rw [← grd_dec]; rfl
noncomputable def fpO (k : Nat) (f : Sy) (x v : D) (s : Sto) : R D := R.then (iqK k x s) (fpV k f v x)
@[simp] theorem fpO_def (k : Nat) (f : Sy) (x v : D) (s : Sto) : fpO k f x v s = R.then (iqK k x s) (fpV k f v x) := (rfl)
theorem fputO_fun : fputO = fpO := by
  funext k f x v s
  simp only [fputO, bdT, insQ_fun, fputK_fun, fpO]
@[simp] theorem x_fputS (k : Nat) (f : Sy) (o v : E) (e : En) (s : Sto) : fputS k f o v e s = R.go (v e s) e fun d s => R.go (o e s) e fun a s => R.go (fpO k f a d s) e fun _ s => .nx e s := by
  simp only [fputS, fputO_fun, x_ev]; rfl
def mtV (m : Sy) (p : List Sy × List D) (r : R D) : R D := if lookN p.1 p.2 m = none then r else .bad
theorem metK_fun (m : Sy) (r : M D) : metK m r = fun p s => mtV m p (r s) := by
  funext p s
  unfold metK mtV
  split <;> rfl
@[simp] theorem x_metE (k : Nat) (m : Sy) (g : List D → M D) (o : E) (ms : Es) (e : En) (s : Sto) : metE k m g o ms e s = R.then (o e s) fun x s => R.then (iqK k x s) fun p s => mtV m p (R.then (ms e s) fun ds s => g (x :: ds) s) := by
  simp only [metE, bdT, insQ_fun, metK_fun]
@[simp] theorem x_metKE (k : Nat) (m : Sy) (g : List D → M D) (gD : List D → List D → List D) (o : E) (ms mk : Es) (e : En) (s : Sto) : metKE k m g gD o ms mk e s = R.then (o e s) fun x s => R.then (iqK k x s) fun p s => mtV m p (R.then (ms e s) fun ds s => R.then (mk e s) fun es s => g (gD (x :: ds) es) s) := by
  simp only [metKE, bdT, insQ_fun, metK_fun]
def mdV (n : Nat) (d : D) (s : Sto) : R D := match d with
  | .non => .ok (.ref n) s
  | _ => .bad
@[simp] theorem mdV_non (n : Nat) (s : Sto) : mdV n .non s = .ok (.ref n) s := (rfl)
theorem madeK_fun : madeK = mdV := by
  funext n d s
  cases d <;> rfl
theorem makK_fun (k : Nat) (g : List D → M D) (gD : List D → List D → List D) (ds es : List D) : makK k g gD ds es = fun s => R.then (g (gD (.ref s.length :: ds) es) (s ++ [⟨true, .ins k [] []⟩])) (mdV s.length) := by
  funext s
  unfold makK
  rw [bdT, madeK_fun]
@[simp] theorem x_makE (k : Nat) (g : List D → M D) (gD : List D → List D → List D) (ms mk : Es) (e : En) (s : Sto) : makE k g gD ms mk e s = R.then (ms e s) fun ds s => R.then (mk e s) fun es s => R.then (g (gD (.ref s.length :: ds) es) (s ++ [⟨true, .ins k [] []⟩])) (mdV s.length) := by
  simp only [makE, bdT, makK_fun]
noncomputable def ikV (d : D) (s : Sto) : R D := match d with
  | .int n => grd (0 ≤ n ∧ n < 4611686018427387904) (.ok (.int n) s)
  | _ => .bad
@[simp] theorem ikV_int (n : Int) (s : Sto) : ikV (.int n) s = grd (0 ≤ n ∧ n < 4611686018427387904) (.ok (.int n) s) := (rfl)
theorem intKo_fun : intKo = ikV := by
  funext d s
  cases d <;> try rfl
  rw [ikV_int, ← grd_dec]
  unfold intKo
  simp only
  split <;> rfl
def skV (d : D) (s : Sto) : R D := match d with
  | .str z => .ok (.str z) s
  | _ => .bad
@[simp] theorem skV_str (z : Sy) (s : Sto) : skV (.str z) s = .ok (.str z) s := (rfl)
theorem strKo_fun : strKo = skV := by
  funext d s
  cases d <;> rfl
def bkV (h : Bool → Bool) (d : D) (s : Sto) : R D := match d with
  | .bl b => .ok (.bl (h b)) s
  | _ => .bad
@[simp] theorem bkV_bl (h : Bool → Bool) (b : Bool) (s : Sto) : bkV h (.bl b) s = .ok (.bl (h b)) s := (rfl)
theorem bolK_fun : bolK = bkV id := by
  funext d s
  cases d <;> rfl
theorem notK_fun : notK = bkV (fun b => !b) := by
  funext d s
  cases d <;> rfl
@[simp] theorem o_spcI (j : Nat) (g : List D → M D) (x : D) (s : Sto) : spcO j g intKo [x] s = R.then (iqK j x s) fun _ s => R.then (R.nx (g [x] s)) ikV := by
  simp only [spcO, bdT, insQ_fun, x_nx, intKo_fun]
@[simp] theorem o_spcS (j : Nat) (g : List D → M D) (x : D) (s : Sto) : spcO j g strKo [x] s = R.then (iqK j x s) fun _ s => R.then (R.nx (g [x] s)) skV := by
  simp only [spcO, bdT, insQ_fun, x_nx, strKo_fun]
def sdK (j : Nat) (y : D) (s : Sto) : R D := sideQ j y s
@[simp] theorem sdK_str (j : Nat) (z : Sy) (s : Sto) : sdK j (.str z) s = .ok (.str z) s := (rfl)
@[simp] theorem sdK_tup (j : Nat) (z : List D) (s : Sto) : sdK j (.tup z) s = .ok (.tup z) s := (rfl)
def sdR (j n : Nat) (o : Option Ob) (s : Sto) : R D := match o with
  | some ⟨true, .ins c _ _⟩ => if c = j then .ok (.ref n) s else .bad
  | _ => .bad
@[simp] theorem sdK_ref (j n : Nat) (s : Sto) : sdK j (.ref n) s = sdR j n s[n]? s := by
  simp only [sdK, sideQ, sdR] <;> (rcases s[_]? with _ | ⟨_ | _, _ | _ | _⟩ <;> rfl)
theorem sideQ_fun : sideQ = sdK := rfl
@[simp] theorem o_cmpE (j : Nat) (g : List D → M D) (x y : D) (s : Sto) : cmpIO j g bolK x y s = R.then (iqK j x s) fun _ s => R.then (sdK j y s) fun _ s => R.then (R.nx (g [x, y] s)) (bkV id) := by
  simp only [cmpIO, bdT, insQ_fun, sideQ_fun, x_nx, bolK_fun]
@[simp] theorem o_cmpN (j : Nat) (g : List D → M D) (x y : D) (s : Sto) : cmpIO j g notK x y s = R.then (iqK j x s) fun _ s => R.then (sdK j y s) fun _ s => R.then (R.nx (g [x, y] s)) (bkV fun b => !b) := by
  simp only [cmpIO, bdT, insQ_fun, sideQ_fun, x_nx, notK_fun]
@[simp] theorem o_isiIT (j : Nat) (xs : List D) (s : Sto) : isiIO j [.tup xs] s = .ok (.bl false) s := (rfl)
@[simp] theorem o_isiIS (j : Nat) (z : Sy) (s : Sto) : isiIO j [.str z] s = .ok (.bl false) s := (rfl)
def isR (j : Nat) (o : Option Ob) (s : Sto) : R D := match o with
  | some ⟨true, .ins c _ _⟩ => if c = j then .ok (.bl true) s else .bad
  | _ => .bad
@[simp] theorem o_isiIR (j n : Nat) (s : Sto) : isiIO j [.ref n] s = isR j s[n]? s := by
  simp only [isiIO, isR] <;> (rcases s[_]? with _ | ⟨_ | _, _ | _ | _⟩ <;> rfl)
@[simp] theorem o_strs (z : Sy) (s : Sto) : strsO [.str z] s = .ok (.str z) s := (rfl)
@[simp] theorem o_fmtI (i : Int) (s : Sto) : fmtO (.int i) s = grd (i.natAbs.log2 < 1920) (.ok (.str (numZ i)) s) := by
  rw [← grd_dec]
  show (if i.natAbs.log2 < 1920 then pu (D.str (numZ i)) else no) s = _
  split <;> rfl
@[simp] theorem o_fmtS (z : Sy) (s : Sto) : fmtO (.str z) s = grd (z.length ≤ 16777216) (.ok (.str z) s) := by
  rw [← grd_dec]
  show (if z.length ≤ LIM then pu (D.str z) else no) s = _
  unfold LIM
  split <;> rfl
noncomputable def jcV (k : Sy → M D) (acc : Sy) (d : D) (s : Sto) : R D := match d with
  | .str z => grd ((acc ++ z).length ≤ 16777216) (k (acc ++ z) s)
  | _ => .bad
@[simp] theorem jcV_str (k : Sy → M D) (acc z : Sy) (s : Sto) : jcV k acc (.str z) s = grd ((acc ++ z).length ≤ 16777216) (k (acc ++ z) s) := (rfl)
theorem jstC_fun : jstC = jcV := by
  funext k acc d s
  cases d <;> try rfl
  rw [jcV_str, ← grd_dec]
  unfold jstC LIM
  simp only
  split <;> rfl
@[simp] theorem x_jstE (ms : List E) (e : En) (s : Sto) : jstE ms e s = jstK ms e [] s := (rfl)
@[simp] theorem x_jst0 (e : En) (acc : Sy) (s : Sto) : jstK [] e acc s = .ok (.str acc) s := (rfl)
@[simp] theorem x_jst1 (m : E) (r : List E) (e : En) (acc : Sy) (s : Sto) : jstK (m :: r) e acc s = R.then (m e s) (jcV (jstK r e) acc) := by
  simp only [jstK, bdT, jstC_fun]
def pkN : List Sy := [[107, 105, 110, 100, 115], [119, 105, 115, 104, 101, 100], [110, 111, 119], [112, 97, 115, 116], [108, 97, 116, 101, 114]]
/-- a Picker: kinds, wish, what is now, past, later -/
def pk (a b c d e : D) : Ob := ⟨true, .ins 0 pkN [a, b, c, d, e]⟩
section
variable (a b c d e v : D) (s : Sto)
@[simp] theorem inK_pk : inK 0 (some (pk a b c d e)) s = .ok (pkN, [a, b, c, d, e]) s := (rfl)
@[simp] theorem sdR_pk (n : Nat) : sdR 0 n (some (pk a b c d e)) s = .ok (.ref n) s := (rfl)
@[simp] theorem isR_pk : isR 0 (some (pk a b c d e)) s = .ok (.bl true) s := (rfl)
@[simp] theorem flV_kinds : flV [107, 105, 110, 100, 115] (pkN, [a, b, c, d, e]) s = .ok a s := (rfl)
@[simp] theorem fpV_kinds (n : Nat) : fpV 0 [107, 105, 110, 100, 115] v (.ref n) (pkN, [a, b, c, d, e]) s = .ok .non (s.set n (pk v b c d e)) := by
  show grd (pkN.length < 1000) _ = _
  rw [grd_ok _ (by decide)]
  rfl
@[simp] theorem flV_wished : flV [119, 105, 115, 104, 101, 100] (pkN, [a, b, c, d, e]) s = .ok b s := (rfl)
@[simp] theorem fpV_wished (n : Nat) : fpV 0 [119, 105, 115, 104, 101, 100] v (.ref n) (pkN, [a, b, c, d, e]) s = .ok .non (s.set n (pk a v c d e)) := by
  show grd (pkN.length < 1000) _ = _
  rw [grd_ok _ (by decide)]
  rfl
@[simp] theorem flV_now : flV [110, 111, 119] (pkN, [a, b, c, d, e]) s = .ok c s := (rfl)
@[simp] theorem fpV_now (n : Nat) : fpV 0 [110, 111, 119] v (.ref n) (pkN, [a, b, c, d, e]) s = .ok .non (s.set n (pk a b v d e)) := by
  show grd (pkN.length < 1000) _ = _
  rw [grd_ok _ (by decide)]
  rfl
@[simp] theorem flV_past : flV [112, 97, 115, 116] (pkN, [a, b, c, d, e]) s = .ok d s := (rfl)
@[simp] theorem fpV_past (n : Nat) : fpV 0 [112, 97, 115, 116] v (.ref n) (pkN, [a, b, c, d, e]) s = .ok .non (s.set n (pk a b c v e)) := by
  show grd (pkN.length < 1000) _ = _
  rw [grd_ok _ (by decide)]
  rfl
@[simp] theorem flV_later : flV [108, 97, 116, 101, 114] (pkN, [a, b, c, d, e]) s = .ok e s := (rfl)
@[simp] theorem fpV_later (n : Nat) : fpV 0 [108, 97, 116, 101, 114] v (.ref n) (pkN, [a, b, c, d, e]) s = .ok .non (s.set n (pk a b c d v)) := by
  show grd (pkN.length < 1000) _ = _
  rw [grd_ok _ (by decide)]
  rfl
@[simp] theorem mtV_lot (r : R D) : mtV [108, 111, 116] (pkN, [a, b, c, d, e]) r = r := (rfl)
@[simp] theorem mtV_bill (r : R D) : mtV [98, 105, 108, 108] (pkN, [a, b, c, d, e]) r = r := (rfl)
@[simp] theorem mtV_wish (r : R D) : mtV [119, 105, 115, 104] (pkN, [a, b, c, d, e]) r = r := (rfl)
@[simp] theorem mtV_counts (r : R D) : mtV [99, 111, 117, 110, 116, 115] (pkN, [a, b, c, d, e]) r = r := (rfl)
@[simp] theorem mtV_loose (r : R D) : mtV [108, 111, 111, 115, 101] (pkN, [a, b, c, d, e]) r = r := (rfl)
@[simp] theorem mtV_hampers (r : R D) : mtV [104, 97, 109, 112, 101, 114, 115] (pkN, [a, b, c, d, e]) r = r := (rfl)
@[simp] theorem mtV_become (r : R D) : mtV [98, 101, 99, 111, 109, 101] (pkN, [a, b, c, d, e]) r = r := (rfl)
@[simp] theorem mtV_hold_of (r : R D) : mtV [104, 111, 108, 100, 95, 111, 102] (pkN, [a, b, c, d, e]) r = r := (rfl)
@[simp] theorem mtV_pack (r : R D) : mtV [112, 97, 99, 107] (pkN, [a, b, c, d, e]) r = r := (rfl)
@[simp] theorem mtV_unpack (r : R D) : mtV [117, 110, 112, 97, 99, 107] (pkN, [a, b, c, d, e]) r = r := (rfl)
@[simp] theorem mtV_turned (r : R D) : mtV [116, 117, 114, 110, 101, 100] (pkN, [a, b, c, d, e]) r = r := (rfl)
@[simp] theorem mtV_swap (r : R D) : mtV [115, 119, 97, 112] (pkN, [a, b, c, d, e]) r = r := (rfl)
@[simp] theorem mtV_better (r : R D) : mtV [98, 101, 116, 116, 101, 114] (pkN, [a, b, c, d, e]) r = r := (rfl)
@[simp] theorem mtV_finish (r : R D) : mtV [102, 105, 110, 105, 115, 104] (pkN, [a, b, c, d, e]) r = r := (rfl)
@[simp] theorem mtV_grow (r : R D) : mtV [103, 114, 111, 119] (pkN, [a, b, c, d, e]) r = r := (rfl)
@[simp] theorem mtV_is_best (r : R D) : mtV [105, 115, 95, 98, 101, 115, 116] (pkN, [a, b, c, d, e]) r = r := (rfl)
@[simp] theorem mtV_undo (r : R D) : mtV [117, 110, 100, 111] (pkN, [a, b, c, d, e]) r = r := (rfl)
@[simp] theorem mtV_redo (r : R D) : mtV [114, 101, 100, 111] (pkN, [a, b, c, d, e]) r = r := (rfl)
@[simp] theorem mtV_left (r : R D) : mtV [108, 101, 102, 116] (pkN, [a, b, c, d, e]) r = r := (rfl)
@[simp] theorem mtV_twin (r : R D) : mtV [116, 119, 105, 110] (pkN, [a, b, c, d, e]) r = r := (rfl)
end
end MX
namespace MP
@[simp] theorem compX_yes {α : Type} (tg : Tg) (elt : E) (ok : Sto → Bool) (e : En) (enc : α → D) : ∀ (l : List α) (s : Sto), compX tg yes elt ok e (l.map enc) s = runL (fun x s => match tg.put (enc x) e with | some e' => elt e' s | none => .bad) ok l s
  | [], _ => rfl
  | x :: l, s => by
    simp only [List.map_cons, compX, runL]
    by_cases h : ok s = true
    · simp only [h, if_true]
      cases tg.put (enc x) e with
      | none => rfl
      | some e' =>
        simp only [yes, bdT, x_nx, x_pu, R.nx_ok, R.then_ok, if_true]
        congr; funext b s
        rw [compX_yes]
        rfl
    · simp only [h]
      rfl
@[simp] theorem x_cmpXF (src : Src) (tg : Tg) (t : T) (elt : E) (vs : List Nat) (e : En) (s : Sto) : cmpXF src tg t elt vs e s = R.then (src e s) fun p s => grd (p.1.length ≤ 16777216) (R.then (compX tg t elt p.2 (wipeE e vs) p.1 s) fun xs s => grd (p.2 s = true) (grd (xs.length ≤ 16777216) (.ok xs s))) := by
  simp only [cmpXF, x_bd]; congr; funext p s
  by_cases h0 : p.1.length ≤ LIM
  · have h0' := h0
    unfold LIM at h0'
    rw [if_pos h0, grd_ok _ h0', x_bd]
    congr; funext xs s; by_cases h1 : p.2 s = true <;> by_cases h2 : xs.length ≤ LIM <;> (have h3 := h2; unfold LIM at h3; simp [h1, h2, h3, grd_ok, grd_no])
  · have h0' := h0
    unfold LIM at h0'
    rw [if_neg h0, grd_no _ h0']
    rfl
end MP
namespace K06
open MP ML PL
theorem r_read_lot (z : Sy) (S : Sto) (h : Okt z) : m_read_lot [.str z] S = match lotI z with
    | none => .exc 6 kText bText S
    | some l => match flawL l with
      | some k => .exc 0 kLot (bLot k) S
      | none => .ok (.tup (l.map row)) S := by
  obtain ⟨h1, h2⟩ := words_ok (k := 32) h
  have h1' : (TL.spl [32] 0 [] z).length ≤ 16777216 := by have : (words 32 z).length ≤ 16777216 := by omega
                                                          exact this
  have hz := h.1
  have e1 : runL (fun w s => m_read_row [D.str w] s) (fun _ => true) (words 32 z) S = match lotI z with
      | some l => .ok (l.map row) S
      | none => .exc 6 kText bText S := by
    have := runL_opt (F := fun w s => m_read_row [D.str w] s) (g := rowI) (enc := row) (c := 6) (ns := kText) (vs := bText) (l := words 32 z) (S := S) fun w hw t => by
      rw [r_read_row' w t (h2 w hw)]
      cases rowI w with
      | none => simp
      | some y => simp [row]
    rw [this]
    unfold lotI
    cases seqO ((words 32 z).map rowI) <;> rfl
  unfold words at e1
  cases q : lotI z with
  | none =>
    simp only [q] at e1
    simp [m_read_lot, m_read_lot_c1, e1]
    exact grd_eq (by omega) rfl
  | some l =>
    have q2 := seqO_inv q
    have hl : l.length ≤ 16777216 := by
      have : ((words 32 z).map rowI).length = l.length := by rw [q2, List.length_map]
      rw [List.length_map] at this
      omega
    have hr : ∀ r ∈ l, r.length ≤ 1000000 := fun r hr => by
      have : some r ∈ (words 32 z).map rowI := by rw [q2]; exact List.mem_map.mpr ⟨r, hr, rfl⟩
      obtain ⟨w, hw, e⟩ := List.mem_map.mp this
      have := (rowI_len (h2 w hw) e).1
      omega
    have e2 := fun S => r_look_lot l S hr
    simp only [q] at e1
    cases f : flawL l with
    | some k =>
      simp only [f] at e2
      simp [m_read_lot, m_read_lot_c1, e1, hl, e2]
      exact grd_eq (by omega) (by rw [f])
    | none =>
      simp only [f] at e2
      simp [m_read_lot, m_read_lot_c1, e1, hl, e2]
      exact grd_eq (by omega) (by rw [f])
end K06
namespace K06
open MP ML PL
def lotT (l : List (List Int)) : Sy := TL.joinL [32] (l.map rowT)
/-- lots whose texts are short -/
def LotS (l : List (List Int)) : Prop := 1 ≤ l.length ∧ l.length ≤ 5 ∧ ∀ r ∈ l, r ≠ [] ∧ r.length ≤ 3 ∧ RowOk r
theorem rowT_len {r : List Int} (h : RowOk r) (h3 : r.length ≤ 3) : (rowT r).length ≤ 96 := by
  have := joinL_len 44 31 (r.map numZ) fun w hw => by
    obtain ⟨z, hz, rfl⟩ := List.mem_map.mp hw
    exact numZ_len (h.2 z hz)
  rw [List.length_map] at this
  unfold rowT
  have h2 : r.length * (31 + 1) ≤ 3 * 32 := Nat.mul_le_mul_right _ h3
  omega
theorem rowT_free {r : List Int} : (32 : Nat) ∉ rowT r := fun hc => by
  rcases joinL_mem 44 _ 32 hc with h | ⟨w, hw, h⟩
  · cases h
  · obtain ⟨z, hz, rfl⟩ := List.mem_map.mp hw
    exact numZ_free (z := z) (k := 32) (by decide) h
theorem lotT_len {l : List (List Int)} (h : LotS l) : (lotT l).length ≤ 500 := by
  have := joinL_len 32 96 (l.map rowT) fun w hw => by
    obtain ⟨r, hr, rfl⟩ := List.mem_map.mp hw
    exact rowT_len (h.2.2 r hr).2.2 (h.2.2 r hr).2.1
  rw [List.length_map] at this
  have h2 : l.length * (96 + 1) ≤ 5 * 97 := Nat.mul_le_mul_right _ h.2.1
  unfold lotT
  omega
theorem lotT_ok {l : List (List Int)} (h : LotS l) : Okt (lotT l) := by
  refine ⟨by have := lotT_len h; omega, ?_⟩
  rw [List.all_eq_true]
  intro c hc
  rcases joinL_mem 32 _ c hc with rfl | ⟨w, hw, hc⟩
  · rfl
  · obtain ⟨r, hr, rfl⟩ := List.mem_map.mp hw
    exact List.all_eq_true.mp (rowT_ok (h.2.2 r hr).2.2).2 c hc
theorem lotI_lotT {l : List (List Int)} (h : LotS l) : lotI (lotT l) = some l := by
  unfold lotI words lotT
  rw [TL.spl_join (by simp; intro e; rw [e] at h; exact absurd h.1 (by decide)) fun p hp => by
    obtain ⟨r, hr, rfl⟩ := List.mem_map.mp hp
    exact rowT_free, List.map_map]
  have : (l.map (rowI ∘ rowT)) = l.map some := List.map_congr_left fun r hr => by
    show seqO (rowIn (rowT r)) = some r
    rw [rowIn_rowT (h.2.2 r hr).2.2 (h.2.2 r hr).1, seqO_some]
  rw [this, seqO_some]
theorem join_lot (l : List (List Int)) (S : Sto) (h : LotS l) : joinK [32] (l.map fun r => D.str (rowT r)) S = .ok (.str (lotT l)) S := by
  have e1 := joinK_strs [32] (l.map rowT) S
  have hg : ((l.map rowT).map (·.length)).sum + (l.map rowT).length * [32].length ≤ 16777216 := by
    have k : ∀ {l : List (List Int)}, (∀ r ∈ l, r.length ≤ 3 ∧ RowOk r) → ((l.map rowT).map (·.length)).sum ≤ 96 * l.length := fun {l} hl => by
      induction l with
      | nil => simp
      | cons r l ih =>
        have := ih fun x hx => hl x (List.mem_cons_of_mem _ hx)
        have := rowT_len (hl r List.mem_cons_self).2 (hl r List.mem_cons_self).1
        simp only [List.map_cons, List.sum_cons, List.length_cons]
        omega
    have := k fun r hr => ⟨(h.2.2 r hr).2.1, (h.2.2 r hr).2.2⟩
    have := h.2.1
    simp only [List.length_map, List.length_cons, List.length_nil] at *
    omega
  rw [grd_ok _ hg, List.map_map] at e1
  exact e1
theorem r_law_lot_text {l : List (List Int)} (S : Sto) (h : LotS l) : m__law_lot_text [.tup (l.map row)] S = .ok (.str (lotT l)) S := by
  have e1 : runL (fun r s => R.nx (m_row_text [row r] s)) (fun _ => true) l S = .ok (l.map fun r => D.str (rowT r)) S := by
    rw [runL_at rfl fun r hr => by
      rw [show row r = .tup (r.map .int) from rfl, r_row_text r S (h.2.2 r hr).2.2]; rfl]
  have e2 := fun S => join_lot l S h
  have l2 := h.2.1
  simp only [row] at e1
  simp [m__law_lot_text, m__law_lot_text_c1, e1, e2]
  exact grd_eq (by omega) rfl
theorem r_lot_text {l : List (List Int)} (S : Sto) (h : LotS l) (hf : flawL l = none) : m_lot_text [.tup (l.map row)] S = .ok (.str (lotT l)) S := by
  have e0 : ∀ S, m_look_lot [.tup (l.map row)] S = .ok .non S := fun S => by
    rw [r_look_lot l S fun r hr => by have := (h.2.2 r hr).2.1; omega, hf]
  have e1 : ∀ S, runL (fun r s => R.nx (m_row_text [row r] s)) (fun _ => true) l S = .ok (l.map fun r => D.str (rowT r)) S := fun S => by
    rw [runL_at rfl fun r hr => by
      rw [show row r = .tup (r.map .int) from rfl, r_row_text r S (h.2.2 r hr).2.2]; rfl]
  have e2 := fun S => join_lot l S h
  have l2 := h.2.1
  simp only [row] at e0 e1
  simp [m_lot_text, m_lot_text_c1, e0, e1, e2]
  exact grd_eq (by omega) rfl
end K06
namespace K06
open MP ML PL
theorem mn_spec : ∀ (l : List Int) (a : Int), (∀ z ∈ a :: l, minL a l ≤ z) ∧ minL a l ∈ a :: l
  | [], a => ⟨fun z hz => by rw [List.mem_singleton.mp hz]; exact Int.le_refl _, by simp [minL]⟩
  | x :: l, a => by
    obtain ⟨i1, i2⟩ := mn_spec l (if x < a then x else a)
    have e : minL a (x :: l) = minL (if x < a then x else a) l := rfl
    rw [e]
    have h0 := i1 _ List.mem_cons_self
    have h1 : (if x < a then x else a) ≤ a ∧ (if x < a then x else a) ≤ x := by split <;> omega
    refine ⟨fun z hz => ?_, ?_⟩
    · rcases List.mem_cons.mp hz with q | hz
      · rw [q]; exact Int.le_trans h0 h1.1
      · rcases List.mem_cons.mp hz with q | hz
        · rw [q]; exact Int.le_trans h0 h1.2
        · exact i1 z (List.mem_cons_of_mem _ hz)
    · rcases List.mem_cons.mp i2 with q | q
      · rw [q]; split <;> simp
      · exact List.mem_cons_of_mem _ (List.mem_cons_of_mem _ q)
theorem mx_spec : ∀ (l : List Int) (a : Int), (∀ z ∈ a :: l, z ≤ maxL a l) ∧ maxL a l ∈ a :: l
  | [], a => ⟨fun z hz => by rw [List.mem_singleton.mp hz]; exact Int.le_refl _, by simp [maxL]⟩
  | x :: l, a => by
    obtain ⟨i1, i2⟩ := mx_spec l (if a < x then x else a)
    have e : maxL a (x :: l) = maxL (if a < x then x else a) l := rfl
    rw [e]
    have h0 := i1 _ List.mem_cons_self
    have h1 : a ≤ (if a < x then x else a) ∧ x ≤ (if a < x then x else a) := by split <;> omega
    refine ⟨fun z hz => ?_, ?_⟩
    · rcases List.mem_cons.mp hz with q | hz
      · rw [q]; exact Int.le_trans h1.1 h0
      · rcases List.mem_cons.mp hz with q | hz
        · rw [q]; exact Int.le_trans h1.2 h0
        · exact i1 z (List.mem_cons_of_mem _ hz)
    · rcases List.mem_cons.mp i2 with q | q
      · rw [q]; split <;> simp
      · exact List.mem_cons_of_mem _ (List.mem_cons_of_mem _ q)
/-- the least and the greatest of a row, written as a tuple or as a list -/
theorem mm_ok {x : List Int} (h : x ≠ []) : ∃ a b : Int, (∀ s, minO [.tup (x.map .int)] s = .ok (.int a) s ∧ minO [.lst (x.map .int)] s = .ok (.int a) s ∧ maxO [.tup (x.map .int)] s = .ok (.int b) s ∧ maxO [.lst (x.map .int)] s = .ok (.int b) s) ∧ (0 ≤ a ↔ ∀ z ∈ x, 0 ≤ z) ∧ (b ≤ 6 ↔ ∀ z ∈ x, z ≤ 6) := by
  cases x with
  | nil => exact absurd rfl h
  | cons a l =>
    have e : intOf (.int a :: l.map .int) = some (a :: l) := intOf_map (a :: l)
    refine ⟨minL a l, maxL a l, fun s => ⟨?_, ?_, ?_, ?_⟩, ?_, ?_⟩
    · simp [minO, bd, itemsO, pu, e]
    · simp [minO, bd, itemsO, pu, e]
    · simp [maxO, bd, itemsO, pu, e]
    · simp [maxO, bd, itemsO, pu, e]
    · obtain ⟨i1, i2⟩ := mn_spec l a
      exact ⟨fun h z hz => Int.le_trans h (i1 z hz), fun h => h _ i2⟩
    · obtain ⟨i1, i2⟩ := mx_spec l a
      exact ⟨fun h z hz => Int.le_trans (i1 z hz) h, fun h => h _ i2⟩
def readD (z : Sy) : D := match lotI z with
  | none => .tup [.non, .str [98, 97, 100, 32, 116, 101, 120, 116]]
  | some l => if flawL l = none then .tup [.tup (l.map row), .str []] else .tup [.non, .str [98, 97, 100, 32, 108, 111, 116]]
theorem read_c1 {z : Sy} (S : Sto) (v0 v1 v3 v4 v5 : Sl) (h : Okt z) : m__law_read_c1 [v0, v1, .va (.str z), v3, v4, v5] S = .ok ((rowIn z).map nD) S := by
  obtain ⟨h1, h2⟩ := words_ok (k := 44) h
  have hz := h.1
  have e1 : runL (fun w s => R.nx (m__law_number_in [D.str w] s)) (fun _ => true) (words 44 z) S = .ok ((rowIn z).map nD) S := by
    rw [runL_val (f := fun w => nD (numIn w)) (fun w hw t => by rw [r_lnumber_in w t (h2 w hw)]; rfl)]
    simp [rowIn, Function.comp_def]
  have hl : (rowIn z).length ≤ 16777216 := by unfold rowIn; rw [List.length_map]; omega
  unfold words at e1
  simp [m__law_read_c1, e1, hl]
  exact grd_eq (by omega) rfl
theorem read_b2 {w : Sy} {S : Sto} {ys : List (List Int)} {p : Nat} (hw : Okt w) (hp : S[p]? = some ⟨true, .lst (ys.map row)⟩) (hy : ys.length ≤ 100001) (v0 v3 v4 v5 : Sl) :
    (rowI w = none → m__law_read_b2 [v0, .va (.ref p), .va (.str w), v3, v4, v5] S = .rt (.tup [.non, .str [98, 97, 100, 32, 116, 101, 120, 116]]) S) ∧
      ∀ r, rowI w = some r → ∃ w3, m__law_read_b2 [v0, .va (.ref p), .va (.str w), v3, v4, v5] S = .nx [v0, .va (.ref p), .va (.str w), w3, v4, v5] (S.set p ⟨true, .lst ((ys ++ [r]).map row)⟩) := by
  have c1 := fun S => read_c1 S v0 (.va (.ref p)) v3 v4 v5 hw
  generalize hC : m__law_read_c1 = C at *
  rcases none_or (rowIn w) with hn | ⟨l, hn⟩
  · have : rowI w = none := seqO_none hn
    refine ⟨fun _ => ?_, fun r hr => by rw [this] at hr; cases hr⟩
    simp [m__law_read_b2, hC, c1, hn]
  · have e : rowI w = some l := by unfold rowI; rw [hn, seqO_some]
    refine ⟨fun h => (by rw [e] at h; cases h), fun r hr => ?_⟩
    rw [e] at hr
    cases hr
    rw [hn, map_nD] at c1
    have e4 := fun s => o_inNL (l.map some) s
    rw [map_nD] at e4
    simp at e4
    refine ⟨.va (.lst (l.map .int)), ?_⟩
    rw [List.map_append]
    have hl : (ys.map row).length ≤ 100001 := by simpa using hy
    generalize ys.map row = Y at *
    simp [m__law_read_b2, hC, c1, e4, hp]
    exact grS_ok _ (by omega)
theorem hold_dec {r : List Int} {G : Nat} {a b : Int} (ha : 0 ≤ a ↔ ∀ z ∈ r, 0 ≤ z) (hb : b ≤ 6 ↔ ∀ z ∈ r, z ≤ 6) : holdB r G = (decide (r.length = G) && (decide (0 < r.sum) && (decide (0 ≤ a) && decide (b ≤ 6)))) := by
  unfold holdB
  rw [Bool.eq_iff_iff]
  simp only [Bool.and_eq_true, decide_eq_true_eq, List.all_eq_true, ha, hb]
  constructor
  · rintro ⟨h1, h2, h3⟩
    exact ⟨by omega, h3, fun z hz => (h2 z hz).1, fun z hz => (h2 z hz).2⟩
  · rintro ⟨h1, h2, h3, h4⟩
    exact ⟨by omega, fun z hz => ⟨h3 z hz, h4 z hz⟩, h2⟩
theorem read_b1 {S : Sto} {l : List (List Int)} {p : Nat} {r : List Int} (hp : S[p]? = some ⟨true, .lst (l.map row)⟩) (h0 : 0 < l.length) (hr : r ≠ []) (hl : r.length ≤ 1000000) (hg : (gt l 0).length ≤ 1000000) (g : Bool) (v0 v2 v4 : Sl) :
    m__law_read_b1 [v0, .va (.ref p), v2, .va (row r), v4, .va (.bl g)] S = .nx [v0, .va (.ref p), v2, .va (row r), v4, .va (.bl (g && holdB r (gt l 0).length))] S := by
  obtain ⟨a, b, mm, ha, hb⟩ := mm_ok hr
  rw [hold_dec ha hb]
  have m1 := fun s => (mm s).1
  have m2 := fun s => (mm s).2.2.1
  have ai : ∀ s, atK (l.map row) 0 s = .ok (.tup ((gt l 0).map .int)) s := fun s => by
    rw [at_map _ _ _ (by omega)]
    exact grd_eq (by omega) rfl
  have ll : ((gt l 0).map D.int).length = (gt l 0).length := by simp
  have lr : (r.map D.int).length = r.length := by simp
  have sm : ∀ s, sumO [.tup (r.map .int)] s = .ok (.int r.sum) s := fun s => o_sumT r
  generalize (gt l 0).map D.int = R0 at *
  generalize l.map row = Y at *
  simp only [row] at *
  generalize r.map D.int = X at *
  cases g with
  | false =>
    simp [m__law_read_b1]
  | true =>
    simp [m__law_read_b1, hp, ai, m1, m2, sm, lr, ll]
    rw [Bool.eq_iff_iff]
    simp only [Bool.and_eq_true, decide_eq_true_eq]
    omega
theorem flaw_good {l : List (List Int)} (h0 : 1 ≤ l.length) (h1 : 1 ≤ (gt l 0).length) : ((decide (l.length ≤ 5) && decide ((gt l 0).length ≤ 3)) && l.all fun r => holdB r (gt l 0).length) = decide (flawL l = none) := by
  rw [Bool.eq_iff_iff]
  simp only [Bool.and_eq_true, decide_eq_true_eq, List.all_eq_true]
  constructor
  · rintro ⟨⟨h2, h3⟩, h4⟩
    unfold flawL
    rw [if_pos (by omega)]
    have : fstB (fun r => !holdB r (gt l 0).length) l 0 = none := fstB_none.mpr fun r hr => by simp [h4 r hr]
    rw [this]
    rfl
  · intro h
    obtain ⟨a, b, c, d, e⟩ := flawL_none h
    exact ⟨⟨b, d⟩, e⟩
theorem lotI_rows {z : Sy} {l : List (List Int)} (h : Okt z) (e : lotI z = some l) : l.length ≤ 100001 ∧ 1 ≤ l.length ∧ ∀ r ∈ l, r ≠ [] ∧ r.length ≤ 100001 := by
  have q2 := seqO_inv e
  obtain ⟨h1, h2⟩ := words_ok (k := 32) h
  have hn : ((words 32 z).map rowI).length = l.length := by rw [q2, List.length_map]
  rw [List.length_map] at hn
  have h3 : 0 < (words 32 z).length := List.length_pos_iff.mpr (words_ne 32 z)
  refine ⟨by omega, by omega, fun r hr => ?_⟩
  have : some r ∈ (words 32 z).map rowI := by rw [q2]; exact List.mem_map.mpr ⟨r, hr, rfl⟩
  obtain ⟨w, hw, e⟩ := List.mem_map.mp this
  have := rowI_len (h2 w hw) e
  exact ⟨fun z => by rw [z] at this; simp at this, this.1⟩
theorem read_loop {S : Sto} (v0 : Sl) : ∀ (ws : List Sy) (ys : List (List Int)) (w2 w3 : Sl), (∀ w ∈ ws, Okt w) → ys.length + ws.length ≤ 100001 →
    (seqO (ws.map rowI) = none → ∃ U, loopL (.nm 2) m__law_read_b2 (fun _ => true) (ws.map D.str) [v0, .va (.ref S.length), w2, w3, .un, .un] (S ++ [⟨true, .lst (ys.map row)⟩]) = .rt (.tup [.non, .str [98, 97, 100, 32, 116, 101, 120, 116]]) (S ++ U)) ∧
      ∀ zs, seqO (ws.map rowI) = some zs → ∃ w2' w3', loopL (.nm 2) m__law_read_b2 (fun _ => true) (ws.map D.str) [v0, .va (.ref S.length), w2, w3, .un, .un] (S ++ [⟨true, .lst (ys.map row)⟩]) = .nx [v0, .va (.ref S.length), w2', w3', .un, .un] (S ++ [⟨true, .lst ((ys ++ zs).map row)⟩])
  | [], ys, w2, w3, _, _ => by
    refine ⟨nofun, fun zs hz => ?_⟩
    cases hz
    exact ⟨w2, w3, by simp [loopL]⟩
  | w :: ws, ys, w2, w3, h, hl => by
    have hp : (S ++ [⟨true, .lst (ys.map row)⟩])[S.length]? = some ⟨true, .lst (ys.map row)⟩ := by simp
    obtain ⟨q1, q2⟩ := read_b2 (h w List.mem_cons_self) hp (by simp at hl; omega) v0 w3 .un .un
    rw [List.map_cons, List.map_cons]
    have pu : (Tg.nm 2).put (.str w) [v0, .va (.ref S.length), w2, w3, .un, .un] = some [v0, .va (.ref S.length), .va (.str w), w3, .un, .un] := rfl
    cases q : rowI w with
    | none =>
      constructor
      · intro _
        refine ⟨[⟨true, .lst (ys.map row)⟩], ?_⟩
        simp only [loopL, if_true, pu, q1 q]
      · intro zs hz
        simp [seqO] at hz
    | some r =>
      obtain ⟨w3', q3⟩ := q2 r q
      have es : (S ++ [(⟨true, .lst (ys.map row)⟩ : Ob)]).set S.length ⟨true, .lst ((ys ++ [r]).map row)⟩ = S ++ [⟨true, .lst ((ys ++ [r]).map row)⟩] := by simp
      rw [es] at q3
      obtain ⟨i1, i2⟩ := read_loop (S := S) v0 ws (ys ++ [r]) (.va (.str w)) w3' (fun x hx => h x (List.mem_cons_of_mem _ hx)) (by simp at hl ⊢; omega)
      simp only [loopL, if_true, pu, q3]
      constructor
      · intro hz
        refine i1 ?_
        simp only [seqO] at hz
        cases e : seqO (ws.map rowI) with
        | none => rfl
        | some t => rw [e] at hz; cases hz
      · intro zs hz
        simp only [seqO] at hz
        cases e : seqO (ws.map rowI) with
        | none => rw [e] at hz; cases hz
        | some t =>
          rw [e] at hz
          cases hz
          obtain ⟨x2, x3, i3⟩ := i2 t e
          refine ⟨x2, x3, ?_⟩
          rw [i3]
          simp
theorem good_loop {S : Sto} {p : Nat} {l : List (List Int)} (hp : S[p]? = some ⟨true, .lst (l.map row)⟩) (h0 : 0 < l.length) (hg : (gt l 0).length ≤ 1000000) {ok : Sto → Bool} (hk : ok S = true) (v0 v2 v4 : Sl) : ∀ (rs : List (List Int)) (v3 : Sl) (g : Bool), (∀ r ∈ rs, r ≠ [] ∧ r.length ≤ 1000000) →
    ∃ w3, loopL (.nm 3) m__law_read_b1 ok (rs.map row) [v0, .va (.ref p), v2, v3, v4, .va (.bl g)] S = .nx [v0, .va (.ref p), v2, w3, v4, .va (.bl (g && rs.all fun r => holdB r (gt l 0).length))] S
  | [], v3, g, _ => ⟨v3, by simp [loopL, hk]⟩
  | r :: rs, v3, g, h => by
    have hr := h r List.mem_cons_self
    have q := read_b1 hp h0 hr.1 hr.2 hg g v0 v2 v4
    obtain ⟨w3, ih⟩ := good_loop hp h0 hg hk v0 v2 v4 rs (.va (row r)) (g && holdB r (gt l 0).length) fun x hx => h x (List.mem_cons_of_mem _ hx)
    have pu : (Tg.nm 3).put (row r) [v0, .va (.ref p), v2, v3, v4, .va (.bl g)] = some [v0, .va (.ref p), v2, .va (row r), v4, .va (.bl g)] := rfl
    refine ⟨w3, ?_⟩
    rw [List.map_cons]
    simp only [loopL, hk, if_true, pu, q, ih]
    rw [List.all_cons, Bool.and_assoc]
theorem r_law_read {z : Sy} (S : Sto) (h : Okt z) : ∃ U, m__law_read [.str z] S = .ok (readD z) (S ++ U) := by
  obtain ⟨w1, w2⟩ := words_ok (k := 32) h
  have lw : (words 32 z).length ≤ 100001 := w1
  have lw2 : (TL.spl [32] 0 [] z).length ≤ 16777216 := by
    have : (words 32 z).length ≤ 16777216 := by omega
    exact this
  have hz := h.1
  obtain ⟨n1, n2⟩ := read_loop (S := S) (.va (.str z)) (words 32 z) [] .un .un w2 (by simpa using lw)
  cases q : lotI z with
  | none =>
    obtain ⟨U, p1⟩ := n1 q
    refine ⟨U, ?_⟩
    unfold readD
    rw [q]
    unfold words at p1
    simp only [List.map_nil] at p1
    simp [m__law_read, p1]
    exact grd_eq (by omega) rfl
  | some l =>
    obtain ⟨x2, x3, p1⟩ := n2 l q
    obtain ⟨l1, l2, l3⟩ := lotI_rows h q
    have g0 := l3 _ (gt0_mem (l := l) (by omega))
    have g1 : 1 ≤ (gt l 0).length := List.length_pos_iff.mpr g0.1
    refine ⟨[⟨true, .lst (l.map row)⟩], ?_⟩
    rw [List.nil_append] at p1
    have hp : (S ++ [⟨true, .lst (l.map row)⟩])[S.length]? = some ⟨true, .lst (l.map row)⟩ := by simp
    obtain ⟨y3, p2⟩ := good_loop hp (by omega) (by omega) (ok := watch (.ref S.length) (S ++ [⟨true, .lst (l.map row)⟩])) (watch_ref _ _) (.va (.str z)) x2 .un l x3 (decide (l.length ≤ 5) && decide ((gt l 0).length ≤ 3)) fun r hr => ⟨(l3 r hr).1, by have := (l3 r hr).2; omega⟩
    rw [flaw_good l2 g1] at p2
    have eg : (decide (l.length ≤ 5) && decide ((gt l 0).length ≤ 3)) = (decide ((l.length : Int) ≤ 5) && decide (((gt l 0).length : Int) ≤ 3)) := by
      rw [Bool.eq_iff_iff]
      simp only [Bool.and_eq_true, decide_eq_true_eq]
      omega
    rw [eg] at p2
    have ai : ∀ s, atK (l.map row) 0 s = .ok (.tup ((gt l 0).map .int)) s := fun s => by
      rw [at_map _ _ _ (by omega)]
      exact grd_eq (by omega) rfl
    have ll : ((gt l 0).map D.int).length = (gt l 0).length := by simp
    have lY : (l.map row).length = l.length := by simp
    unfold readD
    rw [q]
    dsimp only
    unfold words at p1
    simp only [List.map_nil] at p1
    generalize (gt l 0).map D.int = R0 at *
    generalize l.map row = Y at *
    generalize S ++ [⟨true, .lst Y⟩] = T at *
    generalize hB1 : m__law_read_b1 = B1 at *
    generalize hB2 : m__law_read_b2 = B2 at *
    by_cases hq : flawL l = none
    · rw [decide_eq_true hq] at p2
      rw [if_pos hq]
      simp [m__law_read, hB1, hB2, p1, hp, ai, ll, lY, p2]
      exact grd_eq (by omega) rfl
    · rw [decide_eq_false hq] at p2
      rw [if_neg hq]
      simp [m__law_read, hB1, hB2, p1, hp, ai, ll, lY, p2]
      exact grd_eq (by omega) rfl
end K06
namespace K06
open MP ML PL
theorem int_num {w : Sy} {n : Int} (h : numIn w = some n) : intZ w = some n ∧ w.length ≤ 640 := by
  unfold numIn at h
  split at h
  · rename_i q
    obtain ⟨hf, hne⟩ := q
    have hl : (strip w).length ≤ 30 := by
      unfold figs at hf
      simp only [Bool.and_eq_true, decide_eq_true_eq] at hf
      omega
    rcases pre_45 w with ⟨r, rfl⟩ | ⟨_, e, _⟩
    · rw [strip_c] at hf h hl
      rw [if_neg (fun e => by have := congrArg List.length e; simp at this)] at h
      have h := Option.some.inj h
      rcases fcase r with ⟨f1, f2⟩ | ⟨c, t, rfl, f1, f2, f3, f4⟩
      · rw [f2] at hf; cases hf
      · have d1 : digs (45 :: c :: t) = false := by simp [digs, isDig]
        have d2 : digs (c :: t) = true := by simp [digs, f2]; exact f3
        refine ⟨?_, by simp at hl ⊢; omega⟩
        unfold intZ
        simp [d1, d2]
        omega
    · rw [e] at hf h hl
      rw [if_pos rfl] at h
      obtain ⟨i1, i2⟩ := intZ_figs hf
      rw [i1]
      exact ⟨h, i2⟩
  · cases h
theorem r_kind {z : Sy} {l : List (List Int)} {k : Int} (S : Sto) (h : Okt z) (e : lotI z = some l) (f : flawL l = some k) : m__law_kind [.str z] S = .ok (.int k) S := by
  have e1 : ∀ S, m_read_lot [.str z] S = .exc 0 kLot (bLot k) S := fun S => by
    have := r_read_lot z S h
    rw [e] at this
    dsimp only at this
    rw [f] at this
    exact this
  simp [m__law_kind, e1, nthB, kb_BadLot, kLot, bLot]
theorem flaw_c2 {z : Sy} (S : Sto) (v1 v2 v3 v4 : Sl) (h : Okt z) : m__law_flaw_c2 [.va (.str z), v1, v2, v3, v4] S = .ok ((words 32 z).map fun w => .lst ((words 44 w).map .str)) S := by
  obtain ⟨h1, h2⟩ := words_ok (k := 32) h
  have hz := h.1
  simp [m__law_flaw_c2]
  refine grd_eq ⟨by omega, fun x hx => by have := (h2 x hx).1; omega, ?_⟩ rfl
  have : (words 32 z).length ≤ 16777216 := by omega
  exact this
def rowsD (z : Sy) : List D := (words 32 z).map fun w => .lst ((words 44 w).map .str)
theorem word_at {z : Sy} {l : List (List Int)} (h : Okt z) (e : lotI z = some l) {i : Nat} (hi : i < l.length) : ∃ w, Okt w ∧ (∀ s, atK (rowsD z) (i : Nat) s = .ok (.lst ((words 44 w).map .str)) s) ∧ rowIn w = (gt l (i : Nat)).map some := by
  have q2 := seqO_inv e
  obtain ⟨h1, h2⟩ := words_ok (k := 32) h
  have hn : ((words 32 z).map rowI).length = l.length := by rw [q2, List.length_map]
  rw [List.length_map] at hn
  have hi2 : i < (words 32 z).length := by omega
  refine ⟨(words 32 z)[i], h2 _ (List.getElem_mem hi2), fun s => ?_, ?_⟩
  · unfold rowsD
    rw [at_map _ _ _ (by omega), gt_eq hi2]
    exact grd_eq (by omega) rfl
  · have : ((words 32 z).map rowI)[i]? = (l.map some)[i]? := by rw [q2]
    rw [List.getElem?_map, List.getElem?_map, List.getElem?_eq_getElem hi2, List.getElem?_eq_getElem hi] at this
    rw [gt_eq hi]
    exact seqO_inv (Option.some.inj this)
theorem flaw_c1 {z : Sy} {l : List (List Int)} (S : Sto) (v0 v2 v4 : Sl) (h : Okt z) (e : lotI z = some l) {i : Nat} (hi : i < l.length) : m__law_flaw_c1 [v0, .va (.lst (rowsD z)), v2, .va (.int (i : Nat)), v4] S = .ok ((gt l (i : Nat)).map .int) S := by
  obtain ⟨w, hw, ea, er⟩ := word_at h e hi
  obtain ⟨h1, h2⟩ := words_ok (k := 44) hw
  have ln : (words 44 w).length = (gt l (i : Nat)).length := by
    have := congrArg List.length er
    unfold rowIn at this
    simpa using this
  have ll : (words 44 w).length ≤ 16777216 := by omega
  have e1 : runL (fun w s => R.nx (intxO [.str w] s)) (fun _ => true) (words 44 w) S = .ok ((gt l (i : Nat)).map .int) S := by
    have key : ∀ (ws : List Sy) (r : List Int), ws.map numIn = r.map some → runL (fun w s => R.nx (intxO [.str w] s)) (fun _ => true) ws S = .ok (r.map .int) S := fun ws => by
      induction ws with
      | nil =>
        intro r hr
        cases r with
        | nil => rfl
        | cons a r => cases hr
      | cons w ws ih =>
        intro r hr
        cases r with
        | nil => cases hr
        | cons a r =>
          rw [List.map_cons, List.map_cons] at hr
          injection hr with k1 k2
          obtain ⟨i1, i2⟩ := int_num k1
          have e2 := o_intxS (s := S) i1
          rw [grd_ok _ i2] at e2
          simp only [runL, if_true, e2, R.nx_ok, R.then_ok, ih r k2, List.map_cons]
    exact key _ _ er
  generalize words 44 w = ws at *
  generalize rowsD z = rd at *
  have ll2 : (gt l (i : Nat)).length ≤ 16777216 := by omega
  generalize gt l (i : Nat) = r at *
  simp [m__law_flaw_c1, ea]
  rw [e1]
  simp [ll2]
theorem sum_nn : ∀ {x : List Int}, (∀ z ∈ x, 0 ≤ z) → 0 ≤ x.sum
  | [], _ => by simp
  | a :: x, h => by
    have := sum_nn (x := x) fun z hz => h z (List.mem_cons_of_mem _ hz)
    have := h a List.mem_cons_self
    rw [List.sum_cons]
    omega
theorem flaw_b1 {z : Sy} {l : List (List Int)} (S : Sto) (v0 v2 v4 : Sl) (h : Okt z) (e : lotI z = some l) {i : Nat} (hi : i < l.length) :
    m__law_flaw_b1 [v0, .va (.lst (rowsD z)), v2, .va (.int (i : Nat)), v4] S = if holdB (gt l (i : Nat)) (gt l 0).length = true then .nx [v0, .va (.lst (rowsD z)), v2, .va (.int (i : Nat)), .va (.lst ((gt l (i : Nat)).map .int))] S else .rt (.int (i : Nat)) S := by
  have c1 := fun S => flaw_c1 S v0 v2 v4 h e hi
  obtain ⟨l1, l2, l3⟩ := lotI_rows h e
  obtain ⟨w0, hw0, ea, er⟩ := word_at h e (i := 0) (by omega)
  have l0 : ((words 44 w0).map D.str).length = (gt l 0).length := by
    have := congrArg List.length er
    unfold rowIn at this
    simpa using this
  have g0 := l3 _ (gt0_mem (l := l) (by omega))
  have ri : gt l (i : Nat) ∈ l := by rw [gt_eq hi]; exact List.getElem_mem hi
  have gi := l3 _ ri
  obtain ⟨a, b, mm, ha, hb⟩ := mm_ok gi.1
  rw [hold_dec ha hb]
  have m1 := fun s => (mm s).2.1
  have m2 := fun s => (mm s).2.2.2
  have sm : ∀ s, sumO [.lst ((gt l (i : Nat)).map .int)] s = .ok (.int (gt l (i : Nat)).sum) s := fun s => o_sumL _
  have lr : ((gt l (i : Nat)).map D.int).length = (gt l (i : Nat)).length := by simp
  have s0 : (∀ z ∈ gt l (i : Nat), 0 ≤ z) → 0 ≤ (gt l (i : Nat)).sum := fun hz => sum_nn hz
  have ea : ∀ s, atK (rowsD z) 0 s = .ok (.lst ((words 44 w0).map .str)) s := ea
  generalize gt l (i : Nat) = r at *
  generalize (words 44 w0).map D.str = R0 at *
  generalize rowsD z = rd at *
  generalize r.map D.int = X at *
  generalize hC : m__law_flaw_c1 = C at *
  simp [m__law_flaw_b1, hC, c1, ea, m1, m2, sm, lr, l0]
  by_cases q : r.length = (gt l 0).length ∧ 0 < r.sum ∧ 0 ≤ a ∧ b ≤ 6
  · rw [if_pos q, if_neg (by omega)]
  · rw [if_neg q, if_pos]
    by_cases a0 : 0 ≤ a
    · have := s0 (ha.mp a0)
      omega
    · omega
theorem flaw_loop {z : Sy} {l : List (List Int)} (S : Sto) (v0 v2 : Sl) (h : Okt z) (e : lotI z = some l) : ∀ (rs : List (List Int)) (i : Nat) (v3 v4 : Sl), rs = l.drop i → i ≤ l.length →
    ∃ w3 w4, loopL (.nm 3) m__law_flaw_b1 (fun _ => true) ((List.range' i rs.length).map fun i : Nat => D.int (i : Nat)) [v0, .va (.lst (rowsD z)), v2, v3, v4] S = match fstB (fun r => !holdB r (gt l 0).length) rs i with
      | some k => .rt (.int (k : Nat)) S
      | none => .nx [v0, .va (.lst (rowsD z)), v2, w3, w4] S
  | [], i, v3, v4, _, _ => ⟨v3, v4, by simp [loopL, fstB]⟩
  | r :: rs, i, v3, v4, hr, hi => by
    have hi2 : i < l.length := by
      have := congrArg List.length hr
      rw [List.length_cons, List.length_drop] at this
      omega
    have e2 := List.drop_eq_getElem_cons hi2
    rw [← hr] at e2
    injection e2 with k1 k2
    have k1 : r = gt l (i : Nat) := by rw [gt_eq hi2]; exact k1
    have q := flaw_b1 S v0 v2 v4 h e hi2
    have pu : (Tg.nm 3).put (.int (i : Nat)) [v0, .va (.lst (rowsD z)), v2, v3, v4] = some [v0, .va (.lst (rowsD z)), v2, .va (.int (i : Nat)), v4] := rfl
    rw [List.length_cons, List.range'_succ, List.map_cons]
    rw [← k1] at q
    unfold fstB
    cases hh : holdB r (gt l 0).length with
    | false =>
      rw [hh] at q
      refine ⟨v3, v4, ?_⟩
      simp only [loopL, if_true, pu, q]
      rfl
    | true =>
      rw [hh, if_pos rfl] at q
      obtain ⟨w3, w4, ih⟩ := flaw_loop S v0 v2 h e rs (i + 1) (.va (.int (i : Nat))) (.va (.lst (r.map .int))) k2 (by omega)
      refine ⟨w3, w4, ?_⟩
      simp only [loopL, if_true, pu, q, ih]
      rfl
def optI : Option Int → D
  | some k => .int k
  | none => .non
theorem r_flaw {z : Sy} {l : List (List Int)} (S : Sto) (h : Okt z) (e : lotI z = some l) : m__law_flaw [.str z] S = .ok (optI (flawL l)) S := by
  have c2 := fun S => flaw_c2 S .un .un .un .un h
  obtain ⟨l1, l2, l3⟩ := lotI_rows h e
  obtain ⟨w0, hw0, ea, er⟩ := word_at h e (i := 0) (by omega)
  have l0 : ((words 44 w0).map D.str).length = (gt l 0).length := by
    have := congrArg List.length er
    unfold rowIn at this
    simpa using this
  have g0 := l3 _ (gt0_mem (l := l) (by omega))
  have g1 : 1 ≤ (gt l 0).length := List.length_pos_iff.mpr g0.1
  have lr : (rowsD z).length = l.length := by
    have := congrArg List.length (seqO_inv e)
    unfold rowsD
    rw [List.length_map] at this ⊢
    rw [this, List.length_map]
  have ea : ∀ s, atK (rowsD z) 0 s = .ok (.lst ((words 44 w0).map .str)) s := ea
  have c2 : ∀ S, m__law_flaw_c2 [.va (.str z), .un, .un, .un, .un] S = .ok (rowsD z) S := c2
  obtain ⟨w3, w4, p⟩ := flaw_loop S (.va (.str z)) .un h e l 0 .un .un rfl (by omega)
  rw [← List.range_eq_range'] at p
  generalize (words 44 w0).map D.str = R0 at *
  generalize rowsD z = rd at *
  generalize hC : m__law_flaw_c2 = C at *
  generalize hB : m__law_flaw_b1 = B at *
  unfold flawL
  by_cases q : l.length ≤ 5 ∧ (gt l 0).length ≤ 3
  · rw [if_pos (by omega)]
    cases hk : fstB (fun r => !holdB r (gt l 0).length) l 0 with
    | none =>
      rw [hk] at p
      dsimp only at p
      simp [m__law_flaw, hC, hB, c2, ea, lr, l0]
      rw [if_neg (by omega), p]
      exact grd_eq (by omega) rfl
    | some k =>
      rw [hk] at p
      dsimp only at p
      simp [m__law_flaw, hC, hB, c2, ea, lr, l0]
      rw [if_neg (by omega), p]
      exact grd_eq (by omega) rfl
  · rw [if_neg (by omega)]
    simp [m__law_flaw, hC, hB, c2, ea, lr, l0]
    rw [if_pos (by omega)]
    exact grd_eq (by omega) rfl
end K06
namespace PL
open MP (Sy D Cn Ob Sto R En bd pu no rz nx LIM)
end PL
namespace PL
open MP ML
def sumR (n : Nat) (f : Nat → Int) : Int := ((List.range n).map f).sum
def minus (a b : List Int) : List Int := (a.zip b).map fun p => p.1 - p.2
@[simp] theorem r_minus (a b : List Int) (S : Sto) : m_minus [.tup (a.map .int), .tup (b.map .int)] S = grd (min a.length b.length ≤ 16777216) (.ok (.tup ((minus a b).map .int)) S) := by
  simp [m_minus, m_minus_c1, minus, Function.comp_def]
def TOP : Nat := 4000
def isZ (b : List Int) : Bool := b.all fun z => decide (z = 0)
def NN : List (List Int) → List Int → Int
  | [], b => if isZ b = true then 1 else 0
  | h :: l, b => sumR TOP fun m => NN l (minus b (times h m))
theorem minus_len (a b : List Int) : (minus a b).length = min a.length b.length := by simp [minus]
/-- all kinds' rows are as long, none below 0 -/
def Rows (g : Nat) (l : List (List Int)) : Prop := ∀ r ∈ l, r.length = g ∧ ∀ z ∈ r, 0 ≤ z
def boxR : List Int → List (List Int)
  | [] => [[]]
  | a :: b => ((List.range (a + 1).toNat).map fun x => (boxR b).map fun r => ((x : Nat) : Int) :: r).flatten
def inB : List Int → List Int → Prop
  | [], [] => True
  | x :: r, a :: b => 0 ≤ x ∧ x ≤ a ∧ inB r b
  | _, _ => False
theorem mem_boxR : ∀ {b r : List Int}, r ∈ boxR b ↔ inB r b
  | [], r => by
    cases r <;> simp [boxR, inB]
  | a :: b, r => by
    simp only [boxR, List.mem_flatten, List.mem_map, List.mem_range]
    constructor
    · rintro ⟨l, ⟨x, hx, rfl⟩, hr⟩
      obtain ⟨s, hs, rfl⟩ := List.mem_map.mp hr
      exact ⟨by omega, by omega, mem_boxR.mp hs⟩
    · cases r with
      | nil => intro h; exact h.elim
      | cons x r =>
        rintro ⟨h1, h2, h3⟩
        refine ⟨_, ⟨x.toNat, by omega, rfl⟩, List.mem_map.mpr ⟨r, mem_boxR.mpr h3, ?_⟩⟩
        congr 1; omega
theorem inB_minus : ∀ {r b h : List Int}, inB r b → h.length = r.length → (∀ z ∈ h, 0 ≤ z) → within h r = true → inB (minus r h) b
  | [], [], h, _, hl, _, _ => by
    cases h with
    | nil => trivial
    | cons _ _ => simp at hl
  | x :: r, a :: b, [], _, hl, _, _ => by simp at hl
  | x :: r, a :: b, y :: h, hb, hl, h0, hw => by
    have hy := h0 y List.mem_cons_self
    have hw2 : y ≤ x ∧ within h r = true := by simpa [within] using hw
    have hb2 := hb.2.1
    show 0 ≤ x - y ∧ x - y ≤ a ∧ inB (minus r h) b
    refine ⟨by omega, by omega, inB_minus hb.2.2 (by simpa using hl) (fun z hz => h0 z (List.mem_cons_of_mem _ hz)) hw2.2⟩
  | [], _ :: _, _, hb, _, _, _ => hb.elim
  | _ :: _, [], _, hb, _, _, _ => hb.elim
def tab (F : List Int → Int) (ks : List (List Int)) : List (List Int × D) := ks.map fun r => (r, .int (F r))
def prodB : List Int → Int
  | [] => 1
  | a :: b => (a + 1) * prodB b
theorem prodB_pos : ∀ {b : List Int}, (∀ z ∈ b, 0 ≤ z) → 1 ≤ prodB b
  | [], _ => by simp [prodB]
  | a :: b, h => by
    have h1 := prodB_pos (b := b) fun z hz => h z (List.mem_cons_of_mem _ hz)
    have h2 := h a List.mem_cons_self
    have : (1 : Int) * 1 ≤ (a + 1) * prodB b := Int.mul_le_mul (by omega) h1 (by omega) (by omega)
    simpa [prodB] using this
/-- what a table holds -/
def TabOk (l b : List (List Int)) (kvs : List (List Int × D)) : Prop := ∀ r ∈ b, (dval kvs r).getD (.int 0) = .int (NN l r)
theorem prodB_mem : ∀ {b : List Int}, (∀ z ∈ b, 0 ≤ z) → ∀ z ∈ b, z + 1 ≤ prodB b
  | [], _, z, hz => by cases hz
  | a :: b, h0, z, hz => by
    have h1 := prodB_pos (b := b) fun z hz => h0 z (List.mem_cons_of_mem _ hz)
    have ha := h0 a List.mem_cons_self
    show z + 1 ≤ (a + 1) * prodB b
    rcases List.mem_cons.mp hz with rfl | hz
    · have : (z + 1) * 1 ≤ (z + 1) * prodB b := Int.mul_le_mul_of_nonneg_left h1 (by omega)
      omega
    · have h2 := prodB_mem (fun z hz => h0 z (List.mem_cons_of_mem _ hz)) z hz
      have : 1 * prodB b ≤ (a + 1) * prodB b := Int.mul_le_mul_of_nonneg_right (by omega) (by omega)
      omega
theorem self_box {b : List Int} (h : ∀ z ∈ b, 0 ≤ z) : b ∈ boxR b := mem_boxR.mpr (by
  induction b with
  | nil => trivial
  | cons a b ih => exact ⟨h a List.mem_cons_self, Int.le_refl _, ih fun z hz => h z (List.mem_cons_of_mem _ hz)⟩)
end PL
namespace PL
open MP ML
/-- a lot of g goods -/
def LotG (g : Nat) (l : List (List Int)) : Prop := flawL l = none ∧ (gt l 0).length = g
theorem LotG.ok {g : Nat} {l : List (List Int)} (h : LotG g l) : 1 ≤ l.length ∧ l.length ≤ 5 ∧ 1 ≤ g ∧ g ≤ 3 ∧ ∀ r ∈ l, holdB r g = true := by
  obtain ⟨h1, h2⟩ := h
  obtain ⟨l1, l2, l3, l4, l5⟩ := flawL_none h1
  rw [h2] at l3 l4 l5
  exact ⟨l1, l2, l3, l4, l5⟩
/-- a bill that is small -/
def BillG (g : Nat) (b : List Int) : Prop := b.length = g ∧ (∀ z ∈ b, 0 ≤ z) ∧ prodB b ≤ 4000
theorem BillG.top {g : Nat} {b : List Int} (h : BillG g b) : ∀ z ∈ b, z < (TOP : Nat) := fun z hz => by
  have := prodB_mem h.2.1 z hz
  have := h.2.2
  have e : TOP = 4000 := rfl
  rw [e]; omega
theorem prodB_le : ∀ {r b : List Int}, inB r b → prodB r ≤ prodB b
  | [], [], _ => Int.le_refl _
  | x :: r, a :: b, h => by
    have h1 := prodB_le h.2.2
    have h2 := prodB_pos (b := r) fun z hz => by
      have : ∀ {r b : List Int}, inB r b → ∀ z ∈ r, 0 ≤ z := fun {r} => by
        induction r with
        | nil => intro b _ z hz; cases hz
        | cons y r ih =>
          intro b hb z hz
          cases b with
          | nil => exact hb.elim
          | cons a b =>
            rcases List.mem_cons.mp hz with rfl | hz
            · exact hb.1
            · exact ih hb.2.2 z hz
      exact this h.2.2 z hz
    have hx := h.1
    have ha := h.2.1
    exact Int.mul_le_mul (by omega) h1 (by omega) (by omega)
  | [], _ :: _, h => h.elim
  | _ :: _, [], h => h.elim
theorem inB_nonneg : ∀ {r b : List Int}, inB r b → ∀ z ∈ r, 0 ≤ z
  | [], [], _, z, hz => by cases hz
  | x :: r, a :: b, h, z, hz => by
    rcases List.mem_cons.mp hz with rfl | hz
    · exact h.1
    · exact inB_nonneg h.2.2 z hz
  | [], _ :: _, h, _, _ => h.elim
  | _ :: _, [], h, _, _ => h.elim
theorem BillG.less {g : Nat} {b h : List Int} (hb : BillG g b) (hl : h.length = g) (h0 : ∀ z ∈ h, 0 ≤ z) (w : within h b = true) : BillG g (minus b h) := by
  have hi : inB (minus b h) b := inB_minus (r := b) (b := b) (mem_boxR.mp (self_box hb.2.1)) (by rw [hl, hb.1]) h0 w
  exact ⟨by rw [minus_len, hl, hb.1, Nat.min_self], inB_nonneg hi, Int.le_trans (prodB_le hi) hb.2.2⟩
theorem within_minus {h b : List Int} (hl : h.length = b.length) : within h b = true ↔ ∀ z ∈ minus b h, 0 ≤ z := by
  induction h generalizing b with
  | nil => simp [within, minus]
  | cons x h ih =>
    cases b with
    | nil => simp at hl
    | cons y b =>
      have := ih (b := b) (by simpa using hl)
      simp [within, minus] at this ⊢
      rw [this]
      exact fun _ => Iff.rfl
end PL
namespace PL
open MP ML
/-- a bill in bounds -/
def Bnd (g : Nat) (b : List Int) : Prop := b.length = g ∧ ∀ z ∈ b, 0 ≤ z ∧ z < (TOP : Nat)
theorem BillG.bnd {g : Nat} {b : List Int} (h : BillG g b) : Bnd g b := ⟨h.1, fun z hz => ⟨h.2.1 z hz, h.top z hz⟩⟩
theorem Bnd.less {g : Nat} {b h : List Int} (hb : Bnd g b) (hl : h.length = g) (h0 : ∀ z ∈ h, 0 ≤ z) (w : within h b = true) : Bnd g (minus b h) := by
  refine ⟨by rw [minus_len, hl, hb.1, Nat.min_self], fun z hz => ⟨(within_minus (by rw [hl, hb.1])).mp w z hz, ?_⟩⟩
  obtain ⟨p, hp, rfl⟩ := List.mem_map.mp hz
  have h1 := hb.2 p.1 (List.of_mem_zip hp).1
  have h2 := h0 p.2 (List.of_mem_zip hp).2
  omega
theorem times_nonneg {h : List Int} (h0 : ∀ z ∈ h, 0 ≤ z) (m : Nat) : ∀ z ∈ times h m, 0 ≤ z := fun z hz => by
  obtain ⟨y, hy, rfl⟩ := List.mem_map.mp hz
  exact Int.mul_nonneg (h0 y hy) (by omega)
/-- good kinds -/
def Kinds (g : Nat) (l : List (List Int)) : Prop := Rows g l ∧ ∀ r ∈ l, ∃ z ∈ r, 0 < z
def Fill : List (List Int) → List Int → List (List Int)
  | [], b => if isZ b = true then [[]] else []
  | h :: l, b => (List.range TOP).flatMap fun m => (Fill l (minus b (times h (m : Nat)))).map fun c => ((m : Nat) : Int) :: c
def stepL (h : List Int) (rows : List (List Int × List Int)) : List (List Int × List Int) :=
  rows.flatMap fun p => ((List.range TOP).filter fun m => within (times h (m : Nat)) p.2).map fun m => (p.1 ++ [((m : Nat) : Int)], minus p.2 (times h (m : Nat)))
/-- rows within bounds -/
def RowsB (g : Nat) (rows : List (List Int × List Int)) : Prop := ∀ p ∈ rows, Bnd g p.2
theorem stepL_bnd {g : Nat} {h : List Int} {rows : List (List Int × List Int)} (h1 : h.length = g) (h2 : ∀ z ∈ h, 0 ≤ z) (hr : RowsB g rows) : RowsB g (stepL h rows) := fun p hp => by
  obtain ⟨q, hq, hp⟩ := List.mem_flatMap.mp hp
  obtain ⟨m, hm, rfl⟩ := List.mem_map.mp hp
  exact (hr q hq).less (by rw [times_len, h1]) (times_nonneg h2 m) (List.mem_filter.mp hm).2
/-- entries at most B -/
def Below (B : Nat) (b : List Int) : Prop := ∀ z ∈ b, z ≤ (B : Nat)
theorem cap_le {h b : List Int} {m B : Nat} (hl : h.length = b.length) (hs : ∃ z ∈ h, 0 < z) (hB : Below B b) (w : within (times h (m : Nat)) b = true) : m ≤ B := by
  obtain ⟨z, hz, hz0⟩ := hs
  obtain ⟨i, hi, e⟩ := List.mem_iff_getElem.mp hz
  have hib : i < b.length := by omega
  have w2 := List.all_eq_true.mp w (h[i] * (m : Int), b[i]) (by
    rw [List.mem_iff_getElem]
    exact ⟨i, by simp [times_len]; omega, by simp [times]⟩)
  have h3 := hB b[i] (List.getElem_mem hib)
  have h4 : 1 * (m : Int) ≤ h[i] * m := Int.mul_le_mul_of_nonneg_right (by omega) (by omega)
  simp at w2
  omega
theorem filter_le {h b : List Int} {B : Nat} (hl : h.length = b.length) (hs : ∃ z ∈ h, 0 < z) (hB : Below B b) : ((List.range TOP).filter fun m => within (times h (m : Nat)) b).length ≤ B + 1 := by
  have key : ∀ N, ((List.range N).filter fun m => within (times h (m : Nat)) b).length ≤ min N (B + 1) := fun N => by
    induction N with
    | zero => simp
    | succ N ih =>
      rw [List.range_succ, List.filter_append, List.length_append]
      by_cases q : within (times h (N : Nat)) b = true
      · have := cap_le hl hs hB q
        simp [q]
        omega
      · simp [q]
        omega
  have := key TOP
  omega
/-- rows of the loads, all told -/
structure RowsOk (g B n : Nat) (rows : List (List Int × List Int)) : Prop where
  bnd : RowsB g rows
  low : ∀ p ∈ rows, Below B p.2
  len : ∀ p ∈ rows, p.1.length = n
  many : rows.length ≤ (B + 1) ^ n
theorem RowsOk.step {g B n : Nat} {h : List Int} {l : List (List Int)} {rows : List (List Int × List Int)} (hR : Kinds g (h :: l)) (r : RowsOk g B n rows) : RowsOk g B (n + 1) (stepL h rows) := by
  obtain ⟨h1, h2⟩ := hR.1 h List.mem_cons_self
  have hs := hR.2 h List.mem_cons_self
  refine ⟨stepL_bnd h1 h2 r.bnd, fun p hp z hz => ?_, fun p hp => ?_, ?_⟩
  · obtain ⟨q, hq, hp⟩ := List.mem_flatMap.mp hp
    obtain ⟨m, hm, rfl⟩ := List.mem_map.mp hp
    obtain ⟨x, hx, rfl⟩ := List.mem_map.mp hz
    have a1 := r.low q hq x.1 (List.of_mem_zip hx).1
    have a2 := times_nonneg h2 m x.2 (List.of_mem_zip hx).2
    omega
  · obtain ⟨q, hq, hp⟩ := List.mem_flatMap.mp hp
    obtain ⟨m, hm, rfl⟩ := List.mem_map.mp hp
    have := r.len q hq
    simp; omega
  · have hm := r.many
    have : (stepL h rows).length ≤ rows.length * (B + 1) := by
      have hb := r.bnd
      have hlo := r.low
      clear hm r
      induction rows with
      | nil => simp [stepL]
      | cons q rows ih =>
        have h3 := filter_le (h := h) (b := q.2) (B := B) (by rw [h1, (hb q List.mem_cons_self).1]) hs (hlo q List.mem_cons_self)
        have h4 := ih (fun p hp => hb p (List.mem_cons_of_mem _ hp)) fun p hp => hlo p (List.mem_cons_of_mem _ hp)
        unfold stepL at h4 ⊢
        rw [List.flatMap_cons, List.length_append, List.length_map, List.length_cons, Nat.add_mul, Nat.one_mul]
        omega
    rw [Nat.pow_succ]
    exact Nat.le_trans this (Nat.mul_le_mul_right _ hm)
end PL
namespace PL
open MP ML
def TabsAt (T : Sto) (p : Nat) (l : List (List Int)) (b : List Int) : Prop := ∃ ds, T[p]? = some ⟨true, .lst ds⟩ ∧ ds.length = l.length + 1 ∧ ∀ j, j ≤ l.length → ∃ q kvs, ds[j]? = some (.ref q) ∧ T[q]? = some ⟨true, .dct kvs⟩ ∧ TabOk (l.drop j) (boxR b) kvs ∧ (j < l.length → kvs = tab (NN (l.drop j)) (boxR b))
theorem TabsAt.get {T : Sto} {p : Nat} {l : List (List Int)} {b : List Int} (h : TabsAt T p l b) {k : Nat} (hk : k < l.length) {left : List Int} (hl : left ∈ boxR b) (hn : left ≠ []) {e : En} {i3 ik il : Nat} (h3 : e[i3]? = some (.va (.ref p))) (h7 : e[ik]? = some (.va (.int (k : Nat)))) (h5 : e[il]? = some (.va (.tup (left.map .int)))) :
    dgt2E (binE idxO (vE i3) (binE addO (vE ik) (cE (.int 1)))) (vE il) (cE (.int 0)) e T = .ok (.int (NN (l.drop (k + 1)) left)) T := by
  obtain ⟨ds, e1, e2, e3⟩ := h
  obtain ⟨q, kvs, a1, a2, a3, _⟩ := e3 (k + 1) (by omega)
  have ha : ∀ s, atK ds ((k : Int) + 1) s = .ok (.ref q) s := fun s => by
    have := atK_get (s := s) a1
    simpa using this
  have ky := fun s => kyK_ints hn s
  have hv := a3 left hl
  simp [h3, h7, h5, e1, ha, a2, ky, hv]
/-- the blocks of a kind's fillings -/
def blk (h : List Int) (l : List (List Int)) (left : List Int) (m : Nat) : List (List Int) := (Fill l (minus left (times h (m : Nat)))).map fun c => ((m : Nat) : Int) :: c
end PL
namespace PL
open MP ML
end PL
namespace PL
open MP ML
abbrev Pr := List Int × List Int
/-- the amount of a good in a row -/
def col (R : List Pr) (g : Nat) (i : Nat) : Int := gt (gt R (i : Nat)).1 (g : Nat)
/-- all rows are of G goods and K kinds -/
def Shp (G K : Nat) (R : List Pr) : Prop := ∀ p ∈ R, p.1.length = G ∧ p.2.length = K
def BdE (E : Nat) (R : List Pr) : Prop := ∀ p ∈ R, (∀ z ∈ p.1, z.natAbs ≤ E) ∧ ∀ z ∈ p.2, z.natAbs ≤ E
/-- a row less another one so many times -/
def lessR (p q : Pr) (m : Int) : Pr := (minus p.1 (times q.1 m), minus p.2 (times q.2 m))
theorem gt_mem2 {R : List Pr} {i : Nat} (h : i < R.length) : gt R (i : Nat) ∈ R := by
  rw [gt_eq h]; exact List.getElem_mem h
/-- the places where a good is -/
structure Cs (g : Nat) (R : List Pr) (some : List Nat) : Prop where
  nd : some.Pairwise (· < ·)
  all : ∀ i, i ∈ some ↔ i < R.length ∧ col R g i ≠ 0
theorem gt_minus {a b : List Int} {j : Nat} (h : a.length = b.length) (hj : j < a.length) : gt (minus a b) (j : Nat) = gt a (j : Nat) - gt b (j : Nat) := by
  rw [gt_eq (by rw [minus_len]; omega), gt_eq hj, gt_eq (by omega)]
  simp [minus]
inductive Ops : List Pr → List Pr → Prop
  | refl (R : List Pr) : Ops R R
  | step {R R' : List Pr} {i j : Nat} (m : Int) : Ops R R' → i < R'.length → j < R'.length → i ≠ j → Ops R (R'.set i (lessR (gt R' (i : Nat)) (gt R' (j : Nat)) m))
  | perm {R R' R'' : List Pr} : Ops R R' → R'.Perm R'' → Ops R R''
theorem Ops.trans {A B C : List Pr} (h : Ops A B) (h2 : Ops B C) : Ops A C := by
  induction h2 with
  | refl => exact h
  | step m _ h1 h2 h3 ih => exact .step m ih h1 h2 h3
  | perm _ hp ih => exact .perm ih hp
theorem Ops.len {A B : List Pr} (h : Ops A B) : B.length = A.length := by
  induction h with
  | refl => rfl
  | step _ _ _ _ _ ih => rw [List.length_set, ih]
  | perm _ hp ih => rw [← hp.length_eq, ih]
/-- what cleared's loop leaves -/
structure ClEnd (G K g E : Nat) (R R' : List Pr) (some' : List Nat) : Prop where
  ops : Ops R R'
  shp : Shp G K R'
  bd : BdE E R'
  cs : Cs g R' some'
  one : some'.length ≤ 1
theorem BdE.mono {E E' : Nat} {R : List Pr} (h : BdE E R) (hE : E ≤ E') : BdE E' R := fun p hp => ⟨fun z hz => Nat.le_trans ((h p hp).1 z hz) hE, fun z hz => Nat.le_trans ((h p hp).2 z hz) hE⟩
theorem ClEnd.mono {G K g E E' : Nat} {R R' : List Pr} {s : List Nat} (h : ClEnd G K g E R R' s) (hE : E ≤ E') : ClEnd G K g E' R R' s := ⟨h.ops, h.shp, h.bd.mono hE, h.cs, h.one⟩
end PL
namespace PL
open MP ML
theorem gt_mem3 {l : List Int} {g : Nat} (h : g < l.length) : gt l (g : Nat) ∈ l := by rw [gt_eq h]; exact List.getElem_mem h
theorem Ops.all {Q : Pr → Prop} {A B : List Pr} (h : Ops A B) (hq : ∀ a b m, Q a → Q b → Q (lessR a b m)) (hA : ∀ p ∈ A, Q p) : ∀ p ∈ B, Q p := by
  induction h with
  | refl => exact hA
  | step m _ h1 h2 _ ih =>
    intro p hp
    rcases List.mem_or_eq_of_mem_set hp with z | rfl
    · exact ih p z
    · exact hq _ _ _ (ih _ (gt_mem2 h1)) (ih _ (gt_mem2 h2))
  | perm _ hp ih => exact fun p h => ih p (hp.mem_iff.mpr h)
/-- and back -/
theorem Ops.back {Q : Pr → Prop} {A B : List Pr} (h : Ops A B) {G K : Nat} (hA : Shp G K A) (hq : ∀ a b m, Q a → Q b → Q (lessR a b m)) (hB : ∀ p ∈ B, Q p) : ∀ p ∈ A, Q p := by
  induction h with
  | refl => exact hB
  | @step R' i j m ho h1 h2 h3 ih =>
    have sh : Shp G K R' := Ops.all (Q := fun p => p.1.length = G ∧ p.2.length = K) ho (fun a b m ha hb => by simp [lessR, minus_len, times_len, ha, hb]) hA
    refine ih fun p hp => ?_
    obtain ⟨k, hk, rfl⟩ := List.mem_iff_getElem.mp hp
    by_cases q : k = i
    · subst q
      have e1 : lessR (gt R' (k : Nat)) (gt R' (j : Nat)) m ∈ R'.set k (lessR (gt R' (k : Nat)) (gt R' (j : Nat)) m) := List.mem_iff_getElem.mpr ⟨k, by simpa using h1, by simp⟩
      have e2 : gt R' (j : Nat) ∈ R'.set k (lessR (gt R' (k : Nat)) (gt R' (j : Nat)) m) := List.mem_iff_getElem.mpr ⟨j, by simpa using h2, by rw [List.getElem_set_ne h3, gt_eq h2]⟩
      have e3 := hq _ _ (-m) (hB _ e1) (hB _ e2)
      have s1 := sh _ (gt_mem2 h1)
      have s2 := sh _ (gt_mem2 h2)
      have back : ∀ a b : List Int, a.length = b.length → minus (minus a (times b m)) (times b (-m)) = a := fun a b hab => by
        apply List.ext_getElem
        · simp [minus_len, times_len]; omega
        · intro n z1 z2
          simp [minus, times]
          grind
      have : lessR (lessR (gt R' (k : Nat)) (gt R' (j : Nat)) m) (gt R' (j : Nat)) (-m) = R'[k] := by
        rw [← gt_eq h1]
        unfold lessR
        simp only
        rw [back _ _ (by rw [s1.1, s2.1]), back _ _ (by rw [s1.2, s2.2])]
      rw [← this]; exact e3
    · exact hB _ (List.mem_iff_getElem.mpr ⟨k, by simpa using hk, by rw [List.getElem_set_ne (fun z => q z.symm)]⟩)
  | perm _ hp ih => exact ih fun p h => hB p (hp.mem_iff.mp h)
def unitL (n k : Nat) : List Int := (List.range n).map fun i => if i = k then 1 else 0
end PL
namespace PL
open MP ML
def cfB (a b : List Int) : Bool := (a.zip b).all fun p => decide (0 ≤ p.1 * p.2) && decide (p.1.natAbs ≤ p.2.natAbs)
end PL
namespace PL
open MP ML
/-- rows of three, no number greater than n -/
def V3 (n : Nat) (v : List Int) : Prop := v.length = 3 ∧ ∀ z ∈ v, z.natAbs ≤ n
theorem V3.at {n : Nat} {v : List Int} (h : V3 n v) (i : Nat) (hi : i < 3 := by omega) : (gt v (i : Nat)).natAbs ≤ n := h.2 _ (gt_mem3 (by rw [h.1]; exact hi))
end PL
namespace PL
open MP ML
end PL
namespace PL
open MP ML
structure V where
  x : Int
  y : Int
  z : Int
def dt (a b : V) : Int := a.x * b.x + a.y * b.y + a.z * b.z
def cr (a b : V) : V := ⟨a.y * b.z - a.z * b.y, a.z * b.x - a.x * b.z, a.x * b.y - a.y * b.x⟩
def neg (c : V) : V := ⟨-c.x, -c.y, -c.z⟩
def pos (v : V) : Prop := 0 ≤ v.x ∧ 0 ≤ v.y ∧ 0 ≤ v.z ∧ 0 < v.x + v.y + v.z
def zer (v : V) : Prop := v.x = 0 ∧ v.y = 0 ∧ v.z = 0
instance (v : V) : Decidable (zer v) := inferInstanceAs (Decidable (_ ∧ _))
end PL
namespace PL
open MP ML
end PL
namespace PL
open MP ML
theorem dot_nil (a : List Int) : dot [] a = 0 := by simp [dot]
theorem dot_cons (x y : Int) (r a : List Int) : dot (x :: r) (y :: a) = x * y + dot r a := by simp [dot]
theorem dot_plus : ∀ {r a b : List Int}, a.length = b.length → dot r (plus a b) = dot r a + dot r b
  | [], _, _, _ => by simp [dot]
  | x :: r, [], [], _ => by simp [dot, plus]
  | x :: r, y :: a, z :: b, h => by
    have ih := dot_plus (r := r) (a := a) (b := b) (by simpa using h)
    have e : plus (y :: a) (z :: b) = (y + z) :: plus a b := rfl
    rw [e, dot_cons, dot_cons, dot_cons, ih, Int.mul_add]
    omega
  | _ :: _, [], _ :: _, h => by simp at h
  | _ :: _, _ :: _, [], h => by simp at h
theorem dot_times (k : Int) : ∀ (r a : List Int), dot r (times a k) = dot r a * k
  | [], _ => by simp [dot]
  | x :: r, [] => by simp [dot, times]
  | x :: r, y :: a => by
    have ih := dot_times k r a
    have e : times (y :: a) k = (y * k) :: times a k := rfl
    rw [e, dot_cons, dot_cons, ih, Int.add_mul, Int.mul_assoc]
end PL
namespace PL
open MP ML
def Sz (k : Nat) (z : Int) : Prop := z.natAbs < 2 ^ k
def SzL (k : Nat) (v : List Int) : Prop := ∀ z ∈ v, Sz k z
theorem Sz.mono {k m : Nat} {z : Int} (h : Sz k z) (hk : k ≤ m) : Sz m z := Nat.lt_of_lt_of_le h (Nat.pow_le_pow_right (by omega) hk)
theorem SzL.mono {k m : Nat} {v : List Int} (h : SzL k v) (hk : k ≤ m) : SzL m v := fun z hz => (h z hz).mono hk
theorem Sz.add {k : Nat} {a b : Int} (ha : Sz k a) (hb : Sz k b) : Sz (k + 1) (a + b) := by
  unfold Sz at *
  rw [Nat.pow_succ]; omega
theorem Sz.zero (k : Nat) : Sz k 0 := Nat.pow_pos (by decide)
abbrev Stair := List (Nat × List Int)
def back (by_ : Int) (mine g : Nat) : Nat → Stair → List Int
  | _, [] => List.replicate g 0
  | at_, t :: s => (back by_ mine g (at_ + 1) s).set t.1 ((by_ * (if at_ = mine then 1 else 0) - dot (back by_ mine g (at_ + 1) s) t.2).fdiv (gt t.2 (t.1 : Nat)))
end PL
namespace PL
open MP ML
def barsR (l : List (List Int)) (b r : List Int) (by_ : Int) : Bool := decide (1 < by_) && (!decide (dot r b % by_ = 0) && l.all fun h => decide (dot r h % by_ = 0))
end PL
namespace PL
open MP ML
theorem mod_dvd {a b : Int} : a % b = 0 ↔ b ∣ a := ⟨Int.dvd_of_emod_eq_zero, Int.emod_eq_zero_of_dvd⟩
/-- what goes with the kinds bars nothing -/
theorem barsR_none {l : List (List Int)} {b r : List Int} {by_ : Int} (h : (∀ x ∈ l, by_ ∣ dot r x) → by_ ∣ dot r b) : barsR l b r by_ = false := by
  false_or_by_contra
  rename_i q
  have q : barsR l b r by_ = true := by simpa using q
  unfold barsR at q
  simp only [Bool.and_eq_true, decide_eq_true_eq, List.all_eq_true, Bool.not_eq_true', decide_eq_false_iff_not] at q
  exact q.2.1 (mod_dvd.mpr (h fun x hx => mod_dvd.mp (q.2.2 x hx)))
theorem dot_comm (a b : List Int) : dot a b = dot b a := by
  unfold dot
  induction a generalizing b with
  | nil => simp
  | cons x a ih =>
    cases b with
    | nil => simp
    | cons y b =>
      simp only [List.zip_cons_cons, List.map_cons, List.sum_cons]
      rw [ih, Int.mul_comm]
theorem dot_minus {r a b : List Int} (h : a.length = b.length) : dot r (minus a b) = dot r a - dot r b := by
  have e : minus a b = plus a (times b (-1)) := by
    apply List.ext_getElem
    · simp [minus, plus, times]
    · intro i h1 h2
      simp [minus, plus, times]
      try omega
  rw [e, dot_plus (by rw [times_len]; exact h), dot_times]; omega
/-- what rests tells -/
def RestsV (g : Nat) (l : List (List Int)) (b : List Int) (v : Option (List Int × Int)) : Prop :=
  (v = none ∧ ∀ p d, p.length = g → barsR l b p d = false) ∨ ∃ p d, v = some (p, d) ∧ barsR l b p d = true ∧ p.length = g ∧ SzL 4000 p
theorem RestsV.none {g : Nat} {l : List (List Int)} {b : List Int} {v : Option (List Int × Int)} (h : RestsV g l b v) (hd : ∀ r d, (∀ x ∈ l, d ∣ dot r x) → d ∣ dot r b) : v = Option.none := by
  rcases h with ⟨e, _⟩ | ⟨p, d, e, h1, _⟩
  · exact e
  · rw [barsR_none (hd p d)] at h1; cases h1
end PL
namespace PL
open MP ML
abbrev Tr := Pr × List Int
def DualR (a b : Tr) : Prop := dot a.1.2 b.2 = 0 ∧ dot b.1.2 a.2 = 0
structure Dual (K : Nat) (W : List Tr) : Prop where
  len : ∀ x ∈ W, x.1.2.length = K ∧ x.2.length = K
  one : ∀ x ∈ W, dot x.1.2 x.2 = 1
  pw : W.Pairwise DualR
theorem DualR.symm {a b : Tr} (h : DualR a b) : DualR b a := ⟨h.2, h.1⟩
theorem Dual.perm {K : Nat} {W W' : List Tr} (h : Dual K W) (p : W'.Perm W) : Dual K W' :=
  ⟨fun x hx => h.len x (p.mem_iff.mp hx), fun x hx => h.one x (p.mem_iff.mp hx), h.pw.perm p.symm fun z => z.symm⟩
theorem Dual.at {K : Nat} {W : List Tr} (h : Dual K W) {i j : Nat} (hi : i < W.length) (hj : j < W.length) (n : i ≠ j) : dot W[i].1.2 W[j].2 = 0 := by
  have := List.pairwise_iff_getElem.mp h.pw
  rcases Nat.lt_or_gt_of_ne n with q | q
  · exact (this i j hi hj q).1
  · exact (this j i hj hi q).2
theorem dot_minusL {r a b : List Int} (h : a.length = b.length) : dot (minus a b) r = dot a r - dot b r := by
  rw [dot_comm, dot_minus h, dot_comm r a, dot_comm r b]
theorem dot_timesL (k : Int) (r a : List Int) : dot (times a k) r = dot a r * k := by
  rw [dot_comm, dot_times, dot_comm]
theorem Dual.step {K : Nat} {W : List Tr} (h : Dual K W) {i j : Nat} (hi : i < W.length) (hj : j < W.length) (n : i ≠ j) (m : Int) :
    Dual K ((W.set i (lessR W[i].1 W[j].1 m, W[i].2)).set j (W[j].1, plus W[j].2 (times W[i].2 m))) := by
  have li := h.len _ (List.getElem_mem hi)
  have lj := h.len _ (List.getElem_mem hj)
  have oi := h.one _ (List.getElem_mem hi)
  have oj := h.one _ (List.getElem_mem hj)
  have el : ∀ a (ha : a < ((W.set i (lessR W[i].1 W[j].1 m, W[i].2)).set j (W[j].1, plus W[j].2 (times W[i].2 m))).length), ((W.set i (lessR W[i].1 W[j].1 m, W[i].2)).set j (W[j].1, plus W[j].2 (times W[i].2 m)))[a] = if a = j then (W[j].1, plus W[j].2 (times W[i].2 m)) else if a = i then (lessR W[i].1 W[j].1 m, W[i].2) else W[a]'(by simpa using ha) := fun a ha => by
    simp only [List.getElem_set, eq_comm (a := j), eq_comm (a := i)]
  have key : ∀ a b (ha : a < W.length) (hb : b < W.length), dot (if a = j then (W[j].1, plus W[j].2 (times W[i].2 m)) else if a = i then (lessR W[i].1 W[j].1 m, W[i].2) else W[a]).1.2 (if b = j then (W[j].1, plus W[j].2 (times W[i].2 m)) else if b = i then (lessR W[i].1 W[j].1 m, W[i].2) else W[b]).2 = if a = b then 1 else 0 := fun a b ha hb => by
    have d : ∀ a b (ha : a < W.length) (hb : b < W.length), dot W[a].1.2 W[b].2 = if a = b then 1 else 0 := fun a b ha hb => by
      by_cases q : a = b
      · subst q; rw [if_pos rfl]; exact h.one _ (List.getElem_mem ha)
      · rw [if_neg q]; exact h.at ha hb q
    have x1 : ∀ v, dot (lessR W[i].1 W[j].1 m).2 v = dot W[i].1.2 v - dot W[j].1.2 v * m := fun v => by
      show dot (minus W[i].1.2 (times W[j].1.2 m)) v = _
      rw [dot_minusL (by rw [times_len]; omega), dot_timesL]
    have x2 : ∀ u, dot u (plus W[j].2 (times W[i].2 m)) = dot u W[j].2 + dot u W[i].2 * m := fun u => by
      rw [dot_plus (by rw [times_len]; omega), dot_times]
    have ni : ¬ j = i := fun e => n e.symm
    by_cases a1 : a = j
    · subst a1
      rw [if_pos rfl]
      by_cases b1 : b = a
      · subst b1
        rw [if_pos rfl, if_pos rfl]
        show dot W[b].1.2 (plus W[b].2 (times W[i].2 m)) = 1
        rw [x2, d b b hj hj, d b i hj hi, if_pos rfl, if_neg ni]; omega
      · have ab : ¬ a = b := fun e => b1 e.symm
        simp only [if_neg b1, if_neg ab]
        by_cases b2 : b = i
        · subst b2
          simp only [if_true]
          rw [d a b hj hi, if_neg ni]
        · simp only [if_neg b2]
          rw [d a b hj hb, if_neg ab]
    · rw [if_neg a1]
      by_cases a2 : a = i
      · subst a2
        rw [if_pos rfl]
        by_cases b1 : b = j
        · subst b1
          rw [if_pos rfl, if_neg n]
          show dot (lessR W[a].1 W[b].1 m).2 (plus W[b].2 (times W[a].2 m)) = 0
          rw [x2, x1, x1, d a b hi hj, d b b hj hj, d a a hi hi, d b a hj hi, if_neg n, if_pos rfl, if_pos rfl, if_neg ni]; omega
        · rw [if_neg b1]
          by_cases b2 : b = a
          · subst b2
            rw [if_pos rfl, if_pos rfl]
            show dot (lessR W[b].1 W[j].1 m).2 W[b].2 = 1
            rw [x1, d b b hi hi, d j b hj hi, if_pos rfl, if_neg ni]; omega
          · have ab : ¬ a = b := fun e => b2 e.symm
            have jb : ¬ j = b := fun e => b1 e.symm
            simp only [if_neg b2, if_neg ab]
            rw [x1, d a b hi hb, d j b hj hb, if_neg ab, if_neg jb]; omega
      · rw [if_neg a2]
        by_cases b1 : b = j
        · subst b1
          rw [if_pos rfl, if_neg a1]
          show dot W[a].1.2 (plus W[b].2 (times W[i].2 m)) = 0
          rw [x2, d a b ha hj, d a i ha hi, if_neg a1, if_neg a2]; omega
        · rw [if_neg b1]
          by_cases b2 : b = i
          · subst b2
            rw [if_pos rfl, if_neg a2]
            show dot W[a].1.2 W[b].2 = 0
            rw [d a b ha hi, if_neg a2]
          · rw [if_neg b2]
            exact d a b ha hb
  have sz : ((W.set i (lessR W[i].1 W[j].1 m, W[i].2)).set j (W[j].1, plus W[j].2 (times W[i].2 m))).length = W.length := by simp
  refine ⟨fun x hx => ?_, fun x hx => ?_, List.pairwise_iff_getElem.mpr fun a b ha hb hab => ?_⟩
  · rcases List.mem_or_eq_of_mem_set hx with z | rfl
    · rcases List.mem_or_eq_of_mem_set z with z | rfl
      · exact h.len x z
      · refine ⟨?_, li.2⟩
        show (minus W[i].1.2 (times W[j].1.2 m)).length = K
        rw [minus_len, times_len]; omega
    · refine ⟨lj.1, ?_⟩
      show (plus W[j].2 (times W[i].2 m)).length = K
      rw [plus_len, times_len]; omega
  · obtain ⟨a, ha, rfl⟩ := List.mem_iff_getElem.mp hx
    rw [el a ha]
    rw [sz] at ha
    exact (key a a ha ha).trans (if_pos rfl)
  · unfold DualR
    rw [el a ha, el b hb]
    rw [sz] at ha hb
    exact ⟨(key a b ha hb).trans (if_neg (by omega)), (key b a hb ha).trans (if_neg (by omega))⟩
end PL
namespace PL
open MP ML
end PL
namespace PL
open MP ML
end PL
namespace PL
open MP ML
end PL
namespace PL
open MP ML
end PL
namespace PL
open MP ML
theorem gt_extK {K : Nat} {a b : List Int} (ha : a.length = K) (hb : b.length = K) (h : ∀ j : Nat, j < K → gt a (j : Nat) = gt b (j : Nat)) : a = b := by
  apply List.ext_getElem (by omega)
  intro i h1 h2
  have := h i (by omega)
  rwa [gt_eq h1, gt_eq h2] at this
/-- a conformal sum of known ones -/
inductive Rep (P : List Int → Prop) : List Int → Prop
  | zero {w : List Int} : isZ w = true → Rep P w
  | step {w o : List Int} : P o → cfB o w = true → Rep P (minus w o) → Rep P w
theorem Rep.mono {P Q : List Int → Prop} (h : ∀ x, P x → Q x) {w : List Int} (r : Rep P w) : Rep Q w := by
  induction r with
  | zero z => exact .zero z
  | step p c _ ih => exact .step (h _ p) c ih
end PL
namespace PL
open MP ML
def n1 (r : List Int) : Nat := (r.map Int.natAbs).sum
def nT (S : List (List Int)) : Nat := (S.map n1).sum
end PL
namespace PL
open MP ML
theorem dot_lin {a b c : List Int} {m : Int} (h : a.length = b.length) : dot (minus a (times b m)) c = dot a c - dot b c * m := by
  rw [dot_minusL (by rw [times_len]; exact h), dot_timesL]
structure Cmb (G K : Nat) (T R : List Pr) (ct cr : List Int) (h c : Nat → Int) : Prop where
  lt : ct.length = T.length
  lr : cr.length = R.length
  g : ∀ j : Nat, j < G → h j = dot ct (T.map fun p => gt p.1 (j : Nat)) + dot cr (R.map fun p => gt p.1 (j : Nat))
  k : ∀ i : Nat, i < K → c i = dot ct (T.map fun p => gt p.2 (i : Nat)) + dot cr (R.map fun p => gt p.2 (i : Nat))
theorem Cmb.less {G K : Nat} {T R : List Pr} {ct cr ct2 cr2 : List Int} {h c h2 c2 : Nat → Int} (a : Cmb G K T R ct cr h c) (b : Cmb G K T R ct2 cr2 h2 c2) (m : Int) : Cmb G K T R (minus ct (times ct2 m)) (minus cr (times cr2 m)) (fun j => h j - h2 j * m) (fun j => c j - c2 j * m) :=
  ⟨by rw [minus_len, times_len, a.lt, b.lt]; omega, by rw [minus_len, times_len, a.lr, b.lr]; omega,
   fun j hj => by rw [dot_lin (by rw [a.lt, b.lt]), dot_lin (by rw [a.lr, b.lr]), a.g j hj, b.g j hj, Int.add_mul]; omega,
   fun j hj => by rw [dot_lin (by rw [a.lt, b.lt]), dot_lin (by rw [a.lr, b.lr]), a.k j hj, b.k j hj, Int.add_mul]; omega⟩
end PL
namespace PC
open MP ML PL
abbrev Rl := List Int × List Int
def rul (p : Rl) : D := .tup [row p.1, row p.2]
def SrcP (T : Sto) (d : D) (rows : List Rl) : Prop := d = .lst (rows.map rul) ∨ ∃ r, d = .ref r ∧ T[r]? = some ⟨true, .lst (rows.map rul)⟩
theorem SrcP.seq {T : Sto} {d : D} {rows : List Rl} (h : SrcP T d rows) {i : Nat} {e : En} (he : e[i]? = some (.va d)) : seqS (vE i) e T = .ok (rows.map rul, watch d T) T := by
  rcases h with rfl | ⟨r, rfl, hr⟩
  · simp [he]
  · simp [he, hr]
/-- a lead: a row of numbers from 0 on, one above 0 -/
structure Lead (n : Nat) (l : List Int) : Prop where
  len : l.length = n
  nn : ∀ z ∈ l, 0 ≤ z
  pos : ∃ z ∈ l, 0 < z
theorem dot_nil (a : List Int) : dot a [] = 0 := by unfold dot; rw [List.zip_nil_right]; rfl
theorem dot_cons (a b : Int) (l m : List Int) : dot (a :: l) (b :: m) = a * b + dot l m := by unfold dot; rw [List.zip_cons_cons, List.map_cons, List.sum_cons]
theorem dot_plusR : ∀ {r a b : List Int}, a.length = b.length → dot r (plus a b) = dot r a + dot r b
  | [], a, b, _ => by simp [dot]
  | x :: r, [], [], _ => by simp [dot, plus]
  | x :: r, y :: a, z :: b, h => by
    have e : plus (y :: a) (z :: b) = (y + z) :: plus a b := rfl
    rw [e, dot_cons, dot_cons, dot_cons, dot_plusR (by simpa using h), Int.mul_add]
    omega
theorem dot_minusR : ∀ {r a b : List Int}, a.length = b.length → dot r (minus a b) = dot r a - dot r b
  | [], a, b, _ => by simp [dot]
  | x :: r, [], [], _ => by simp [dot, minus]
  | x :: r, y :: a, z :: b, h => by
    have e : minus (y :: a) (z :: b) = (y - z) :: minus a b := rfl
    rw [e, dot_cons, dot_cons, dot_cons, dot_minusR (by simpa using h), Int.mul_sub]
    omega
theorem dot_nn : ∀ {w x : List Int}, (∀ z ∈ w, 0 ≤ z) → (∀ z ∈ x, 0 ≤ z) → 0 ≤ dot w x
  | [], x, _, _ => by simp [dot]
  | a :: w, [], _, _ => by rw [dot_nil]; omega
  | a :: w, b :: x, h1, h2 => by
    rw [dot_cons]
    have := dot_nn (w := w) (x := x) (fun z hz => h1 z (List.mem_cons_of_mem _ hz)) (fun z hz => h2 z (List.mem_cons_of_mem _ hz))
    have := Int.mul_nonneg (h1 a List.mem_cons_self) (h2 b List.mem_cons_self)
    omega
theorem le_dot : ∀ {w x : List Int}, (∀ z ∈ w, 1 ≤ z) → (∀ z ∈ x, 0 ≤ z) → x.length ≤ w.length → ∀ z ∈ x, z ≤ dot w x
  | w, [], _, _, _ => fun z hz => by cases hz
  | [], b :: x, _, _, h => by simp at h
  | a :: w, b :: x, h1, h2, hl => fun z hz => by
    rw [dot_cons]
    have ha := h1 a List.mem_cons_self
    have hb := h2 b List.mem_cons_self
    have w1 : ∀ z ∈ w, 1 ≤ z := fun z hz => h1 z (List.mem_cons_of_mem _ hz)
    have x1 : ∀ z ∈ x, 0 ≤ z := fun z hz => h2 z (List.mem_cons_of_mem _ hz)
    have d0 := dot_nn (w := w) (x := x) (fun z hz => by have := w1 z hz; omega) x1
    have m : 1 * b ≤ a * b := Int.mul_le_mul_of_nonneg_right ha hb
    rcases List.mem_cons.mp hz with rfl | hz
    · omega
    · have := le_dot w1 x1 (by simpa using hl) z hz
      omega
def MAXT : Int := 2 ^ 300
structure Good (w : List Int) : Prop where
  pos : ∀ z ∈ w, 1 ≤ z
  len : w.length ≤ 1000
structure Rule (w : List Int) (p : Rl) : Prop where
  lead : Lead w.length p.1
  len : p.2.length = w.length
  nn : ∀ z ∈ p.2, 0 ≤ z
  wt : dot w p.1 = dot w p.2
  sm : dot w p.1 ≤ MAXT
end PC
namespace PC
open MP ML PL
def upper (a b : List Int) : List Int := (a.zip b).map fun p => if p.1 < p.2 then p.2 else p.1
def rk (k : Nat) (w x : List Int) : List Int := (x.drop k).sum :: dot (x.take k) w :: (x.drop k ++ x.take k)
end PC
namespace PC
open MP ML PL
def left_ (f s : Rl) : List Int := plus (minus (upper f.1 s.1) f.1) f.2
def right_ (f s : Rl) : List Int := plus (minus (upper f.1 s.1) s.1) s.2
theorem zip_len {a b : List Int} {f : Int × Int → Int} (h : a.length = b.length) : ((a.zip b).map f).length = a.length := by rw [List.length_map, List.length_zip]; omega
theorem of_at {n : Nat} {P : Int → Prop} {a : List Int} (ha : a.length = n) (h : ∀ j : Nat, j < n → P (gt a (j : Nat))) : ∀ z ∈ a, P z := fun z hz => by
  obtain ⟨j, hj, rfl⟩ := List.mem_iff_getElem.mp hz
  rw [← gt_eq hj]
  exact h j (by omega)
theorem at_of {n j : Nat} {P : Int → Prop} {a : List Int} (ha : a.length = n) (h : ∀ z ∈ a, P z) (hj : j < n) : P (gt a (j : Nat)) := h _ (gt_mem3 (by omega))
theorem plusK' {n : Nat} {a b : List Int} (ha : a.length = n) (hb : b.length = n) : (plus a b).length = n := by unfold plus; rw [zip_len (by omega), ha]
theorem minusK' {n : Nat} {a b : List Int} (ha : a.length = n) (hb : b.length = n) : (minus a b).length = n := by unfold minus; rw [zip_len (by omega), ha]
end PC
namespace PC
open MP ML PL
theorem within_iff {n : Nat} {a b : List Int} (ha : a.length = n) (hb : b.length = n) : within a b = true ↔ ∀ j : Nat, j < n → gt a (j : Nat) ≤ gt b (j : Nat) := by
  unfold within
  rw [List.all_eq_true]
  constructor
  · intro h j hj
    have := h (a[j], b[j]) (List.mem_iff_getElem.mpr ⟨j, by rw [List.length_zip]; omega, List.getElem_zip⟩)
    simp only [decide_eq_true_eq] at this
    rwa [gt_eq (by omega), gt_eq (by omega)]
  · intro h p hp
    obtain ⟨j, hj, rfl⟩ := List.mem_iff_getElem.mp hp
    rw [List.length_zip] at hj
    rw [List.getElem_zip]
    simp only [decide_eq_true_eq]
    have := h j (by omega)
    rwa [gt_eq (by omega), gt_eq (by omega)] at this
structure Vec (n : Nat) (x : List Int) : Prop where
  len : x.length = n
  nn : ∀ z ∈ x, 0 ≤ z
/-- a rule, its lengths alone -/
structure Ru (n : Nat) (p : Rl) : Prop where
  l : Lead n p.1
  r : Vec n p.2
theorem Rule.ru {om : List Int} {p : Rl} (h : Rule om p) : Ru om.length p := ⟨h.lead, h.len, h.nn⟩
def ap (p : Rl) (x : List Int) : List Int := plus x (minus p.2 p.1)
inductive Rd (R : List Rl) : List Int → List Int → Prop
  | refl (x : List Int) : Rd R x x
  | step {x y : List Int} (p : Rl) (hp : p ∈ R) (h : within p.1 x = true) (t : Rd R (ap p x) y) : Rd R x y
theorem Rd.trans {R : List Rl} {x y z : List Int} (h : Rd R x y) (h2 : Rd R y z) : Rd R x z := by
  induction h with
  | refl => exact h2
  | step p hp h t ih => exact .step p hp h (ih h2)
theorem Rd.mono {R R' : List Rl} (hs : ∀ p ∈ R, p ∈ R') {x y : List Int} (h : Rd R x y) : Rd R' x y := by
  induction h with
  | refl => exact .refl _
  | step p hp h t ih => exact .step p (hs p hp) h ih
theorem ap_at {n : Nat} {p : Rl} {x : List Int} (hp : Ru n p) (hx : x.length = n) {j : Nat} (hj : j < n) : gt (ap p x) (j : Nat) = gt x (j : Nat) + gt p.2 (j : Nat) - gt p.1 (j : Nat) := by
  have h1 := hp.l.len
  have h2 := hp.r.len
  have := minusK' h2 h1
  unfold ap
  rw [gt_plus (by omega) (by omega), gt_minus (by omega) (by omega)]
  omega
theorem ap_vec {n : Nat} {p : Rl} {x : List Int} (hp : Ru n p) (hx : Vec n x) (h : within p.1 x = true) : Vec n (ap p x) := by
  have l := plusK' hx.len (minusK' hp.r.len hp.l.len)
  refine ⟨l, of_at l fun j hj => ?_⟩
  have e := ap_at hp hx.len hj
  have h1 := (within_iff hp.l.len hx.len).mp h j hj
  have h2 := at_of hp.r.len hp.r.nn hj
  show 0 ≤ gt (ap p x) (j : Nat)
  omega
theorem Rd.vec {n : Nat} {R : List Rl} (hR : ∀ p ∈ R, Ru n p) {x y : List Int} (h : Rd R x y) : Vec n x → Vec n y := by
  induction h with
  | refl => exact id
  | step p hp h t ih => exact fun hx => ih (ap_vec (hR p hp) hx h)
theorem plus_at {n j : Nat} {a b : List Int} (ha : a.length = n) (hb : b.length = n) (hj : j < n) : gt (plus a b) (j : Nat) = gt a (j : Nat) + gt b (j : Nat) := gt_plus (by omega) (by omega)
theorem minus_at {n j : Nat} {a b : List Int} (ha : a.length = n) (hb : b.length = n) (hj : j < n) : gt (minus a b) (j : Nat) = gt a (j : Nat) - gt b (j : Nat) := gt_minus (by omega) (by omega)
/-- rules done where more lies beside -/
theorem Rd.add {n : Nat} {R : List Rl} (hR : ∀ p ∈ R, Ru n p) {c : List Int} (hc : Vec n c) {x y : List Int} (h : Rd R x y) : Vec n x → Rd R (plus c x) (plus c y) := by
  induction h with
  | refl => exact fun _ => .refl _
  | @step x y p hp h t ih =>
    intro hx
    have hr := hR p hp
    have e : plus c (ap p x) = ap p (plus c x) := gt_extK (plusK' hc.len (ap_vec hr hx h).len) (plusK' (plusK' hc.len hx.len) (minusK' hr.r.len hr.l.len)) fun j hj => by
      rw [plus_at hc.len (ap_vec hr hx h).len hj, ap_at hr hx.len hj, ap_at hr (plusK' hc.len hx.len) hj, plus_at hc.len hx.len hj]
      omega
    refine .step p hp ?_ (e ▸ ih (ap_vec hr hx h))
    refine (within_iff hr.l.len (plusK' hc.len hx.len)).mpr fun j hj => ?_
    have h1 := (within_iff hr.l.len hx.len).mp h j hj
    have h2 := at_of hc.len hc.nn hj
    rw [plus_at hc.len hx.len hj]
    omega
def Irr (R : List Rl) (x : List Int) : Prop := ∀ p ∈ R, within p.1 x = false
end PC
namespace PC
open MP ML PL
theorem plus_lex : ∀ {c x y : List Int}, c.length = x.length → x.length = y.length → (plus c x < plus c y ↔ x < y)
  | [], [], [], _, _ => by simp [plus]
  | a :: c, x :: xs, y :: ys, h1, h2 => by
    have e1 : plus (a :: c) (x :: xs) = (a + x) :: plus c xs := rfl
    have e2 : plus (a :: c) (y :: ys) = (a + y) :: plus c ys := rfl
    rw [e1, e2, List.cons_lt_cons_iff, List.cons_lt_cons_iff, plus_lex (by simpa using h1) (by simpa using h2)]
    constructor
    · rintro (h | ⟨h, h'⟩)
      · exact .inl (by omega)
      · exact .inr ⟨by omega, h'⟩
    · rintro (h | ⟨h, h'⟩)
      · exact .inl (by omega)
      · exact .inr ⟨by omega, h'⟩
theorem plus_take : ∀ (k : Nat) (a b : List Int), (plus a b).take k = plus (a.take k) (b.take k)
  | 0, _, _ => rfl
  | k + 1, [], b => rfl
  | k + 1, x :: a, [] => rfl
  | k + 1, x :: a, y :: b => congrArg (List.cons (x + y)) (plus_take k a b)
theorem plus_nil (a : List Int) : plus a [] = [] := by unfold plus; rw [List.zip_nil_right]; rfl
theorem plus_drop : ∀ (k : Nat) (a b : List Int), (plus a b).drop k = plus (a.drop k) (b.drop k)
  | 0, _, _ => rfl
  | k + 1, [], b => rfl
  | k + 1, x :: a, [] => by rw [plus_nil, List.drop_nil, plus_nil]
  | k + 1, x :: a, y :: b => plus_drop k a b
theorem sum_plus : ∀ {a b : List Int}, a.length = b.length → (plus a b).sum = a.sum + b.sum
  | [], [], _ => rfl
  | x :: a, y :: b, h => by
    have e : plus (x :: a) (y :: b) = (x + y) :: plus a b := rfl
    rw [e, List.sum_cons, List.sum_cons, List.sum_cons, sum_plus (by simpa using h)]
    omega
theorem dot_plusL : ∀ {r a b : List Int}, a.length = b.length → dot (plus a b) r = dot a r + dot b r
  | r, [], [], _ => by simp [dot, plus]
  | [], x :: a, y :: b, _ => by simp [dot]
  | z :: r, y :: a, x :: b, h => by
    have e : plus (y :: a) (x :: b) = (y + x) :: plus a b := rfl
    rw [e, dot_cons, dot_cons, dot_cons, dot_plusL (by simpa using h), Int.add_mul]
    omega
theorem plus_app {a b c d : List Int} (h : a.length = c.length) : plus (a ++ b) (c ++ d) = plus a c ++ plus b d := by
  unfold plus
  rw [List.zip_append h, List.map_append]
theorem rk_plus {k : Nat} {w c x : List Int} (h : c.length = x.length) : rk k w (plus c x) = plus (rk k w c) (rk k w x) := by
  have l1 : (c.drop k).length = (x.drop k).length := by rw [List.length_drop, List.length_drop, h]
  have l2 : (c.take k).length = (x.take k).length := by rw [List.length_take, List.length_take, h]
  unfold rk
  rw [plus_drop, plus_take, sum_plus l1, dot_plusL l2]
  have e : ∀ (a b a' b' : Int) (l m : List Int), plus (a :: b :: l) (a' :: b' :: m) = (a + a') :: (b + b') :: plus l m := fun _ _ _ _ _ _ => rfl
  rw [e, plus_app l1]
theorem rk_len (k : Nat) (w x : List Int) : (rk k w x).length = x.length + 2 := by
  unfold rk
  simp
  omega
theorem rk_shift {k : Nat} {w c x y : List Int} (h : c.length = x.length) (h2 : x.length = y.length) : rk k w (plus c x) < rk k w (plus c y) ↔ rk k w x < rk k w y := by
  rw [rk_plus h, rk_plus (by omega)]
  exact plus_lex (by rw [rk_len, rk_len, h]) (by rw [rk_len, rk_len, h2])
def Dn (k : Nat) (w : List Int) (p : Rl) : Prop := rk k w p.2 < rk k w p.1
theorem ap_dn {n k : Nat} {w : List Int} {p : Rl} {x : List Int} (hp : Ru n p) (hd : Dn k w p) (hx : Vec n x) (h : within p.1 x = true) : rk k w (ap p x) < rk k w x := by
  have lc := minusK' hx.len hp.l.len
  have e1 : plus (minus x p.1) p.1 = x := gt_extK (plusK' lc hp.l.len) hx.len fun j hj => by
    rw [plus_at lc hp.l.len hj, minus_at hx.len hp.l.len hj]; omega
  have e2 : plus (minus x p.1) p.2 = ap p x := gt_extK (plusK' lc hp.r.len) (ap_vec hp hx h).len fun j hj => by
    rw [plus_at lc hp.r.len hj, minus_at hx.len hp.l.len hj, ap_at hp hx.len hj]; omega
  have := (rk_shift (k := k) (w := w) (c := minus x p.1) (x := p.2) (y := p.1) (by have := hp.r.len; omega) (by have := hp.r.len; have := hp.l.len; omega)).mpr hd
  rwa [e1, e2] at this
def allV : Nat → Nat → List (List Int)
  | 0, _ => [[]]
  | n + 1, T => (List.range (T + 1)).flatMap fun a : Nat => (allV n T).map fun x => (a : Int) :: x
theorem mem_allV : ∀ {n T : Nat} {x : List Int}, x.length = n → (∀ z ∈ x, 0 ≤ z ∧ z ≤ T) → x ∈ allV n T
  | 0, T, [], _, _ => by simp [allV]
  | n + 1, T, a :: x, h, hz => by
    rw [allV, List.mem_flatMap]
    have ha := hz a List.mem_cons_self
    refine ⟨a.toNat, by rw [List.mem_range]; omega, List.mem_map.mpr ⟨x, mem_allV (by simpa using h) fun z hz2 => hz z (List.mem_cons_of_mem _ hz2), ?_⟩⟩
    rw [show ((a.toNat : Nat) : Int) = a by omega]
theorem count_lt {α : Type} {p q : α → Bool} : ∀ {l : List α} {a : α}, (∀ x, p x = true → q x = true) → a ∈ l → p a = false → q a = true → l.countP p < l.countP q
  | b :: l, a, h, ha, h1, h2 => by
    have mono : l.countP p ≤ l.countP q := List.countP_mono_left fun x _ => h x
    rw [List.countP_cons, List.countP_cons]
    rcases List.mem_cons.mp ha with rfl | ha
    · rw [h1, h2]; simp; omega
    · have ih := count_lt h ha h1 h2
      by_cases q1 : p b = true
      · rw [q1, h b q1]; simp; omega
      · rw [if_neg q1]; split <;> omega
def mu (n T k : Nat) (w x : List Int) : Nat := (allV n T).countP fun y => decide (rk k w y < rk k w x)
theorem mu_lt {n T k : Nat} {w x y : List Int} (hy : y.length = n) (hz : ∀ z ∈ y, 0 ≤ z ∧ z ≤ T) (h : rk k w y < rk k w x) : mu n T k w y < mu n T k w x := by
  refine count_lt (a := y) (fun z hz => ?_) (mem_allV hy hz) ?_ (decide_eq_true h)
  · exact decide_eq_true (List.lt_trans (of_decide_eq_true hz) h)
  · exact decide_eq_false (List.lt_irrefl _)
structure RS_ (om : List Int) (k : Nat) (w : List Int) (R : List Rl) : Prop where
  gd : Good om
  ru : ∀ p ∈ R, Ru om.length p
  wt : ∀ p ∈ R, dot om p.1 = dot om p.2
  dn : ∀ p ∈ R, Dn k w p
theorem ap_wt {om : List Int} {p : Rl} {x : List Int} (hp : Ru om.length p) (hw : dot om p.1 = dot om p.2) (hx : x.length = om.length) : dot om (ap p x) = dot om x := by
  have h1 := hp.l.len
  have h2 := hp.r.len
  have := minusK' h2 h1
  unfold ap
  rw [dot_plusR (by omega), dot_minusR (by omega)]
  omega
theorem vec_le {om : List Int} (hg : Good om) {x : List Int} (hx : Vec om.length x) : ∀ z ∈ x, 0 ≤ z ∧ z ≤ ((dot om x).toNat : Int) := fun z hz => by
  have := le_dot hg.pos hx.nn (by have := hx.len; omega) z hz
  have := hx.nn z hz
  omega
theorem ap_mu {om : List Int} {k : Nat} {w : List Int} {R : List Rl} (hR : RS_ om k w R) {p : Rl} (hp : p ∈ R) {x : List Int} (hx : Vec om.length x) (h : within p.1 x = true) : mu om.length (dot om x).toNat k w (ap p x) < mu om.length (dot om x).toNat k w x := by
  have v := ap_vec (hR.ru p hp) hx h
  have e := ap_wt (hR.ru p hp) (hR.wt p hp) hx.len
  refine mu_lt v.len (fun z hz => ?_) (ap_dn (hR.ru p hp) (hR.dn p hp) hx h)
  have := vec_le hR.gd v z hz
  rwa [e] at this
theorem irr_or {R : List Rl} (x : List Int) : Irr R x ∨ ∃ p ∈ R, within p.1 x = true := by
  rcases Classical.em (∃ p ∈ R, within p.1 x = true) with q | q
  · exact .inr q
  · refine .inl fun p hp => ?_
    cases h : within p.1 x with
    | false => rfl
    | true => exact absurd ⟨p, hp, h⟩ q
theorem ex_irr {om : List Int} {k : Nat} {w : List Int} {R : List Rl} (hR : RS_ om k w R) : ∀ (m : Nat) (x : List Int), Vec om.length x → mu om.length (dot om x).toNat k w x ≤ m → ∃ y, Rd R x y ∧ Irr R y
  | m, x, hx, hm => by
    rcases irr_or (R := R) x with h | ⟨p, hp, h⟩
    · exact ⟨x, .refl _, h⟩
    · have a := ap_mu hR hp hx h
      have e := ap_wt (hR.ru p hp) (hR.wt p hp) hx.len
      match m, hm with
      | 0, hm => omega
      | m + 1, hm =>
        obtain ⟨y, h1, h2⟩ := ex_irr hR m (ap p x) (ap_vec (hR.ru p hp) hx h) (by rw [e]; omega)
        exact ⟨y, .step p hp h h1, h2⟩
/-- every two ways from a load meet again -/
def Meet (n : Nat) (R : List Rl) : Prop := ∀ p ∈ R, ∀ q ∈ R, ∀ v, Vec n v → within p.1 v = true → within q.1 v = true → ∃ z, Rd R (ap p v) z ∧ Rd R (ap q v) z
theorem uniq {om : List Int} {k : Nat} {w : List Int} {R : List Rl} (hR : RS_ om k w R) (hM : Meet om.length R) : ∀ (m : Nat) (v a b : List Int), Vec om.length v → mu om.length (dot om v).toNat k w v ≤ m → Rd R v a → Rd R v b → Irr R a → Irr R b → a = b
  | m, v, a, b, hv, hm, h1, h2, i1, i2 => by
    cases h1 with
    | refl =>
      cases h2 with
      | refl => rfl
      | step q hq hw t => rw [i1 q hq] at hw; cases hw
    | step p hp hpw t =>
      cases h2 with
      | refl => rw [i2 p hp] at hpw; cases hpw
      | step q hq hqw t2 =>
        obtain ⟨z, z1, z2⟩ := hM p hp q hq v hv hpw hqw
        have vp := ap_vec (hR.ru p hp) hv hpw
        have vq := ap_vec (hR.ru q hq) hv hqw
        have ep := ap_wt (hR.ru p hp) (hR.wt p hp) hv.len
        have eq := ap_wt (hR.ru q hq) (hR.wt q hq) hv.len
        have mp := ap_mu hR hp hv hpw
        have mq := ap_mu hR hq hv hqw
        obtain ⟨c, c1, c2⟩ := ex_irr hR _ z (z1.vec hR.ru vp) (Nat.le_refl _)
        match m, hm with
        | 0, hm => omega
        | m + 1, hm =>
          have e1 := uniq hR hM m (ap p v) a c vp (by rw [ep]; omega) t (z1.trans c1) i1 c2
          have e2 := uniq hR hM m (ap q v) b c vq (by rw [eq]; omega) t2 (z2.trans c1) i2 c2
          rw [e1, e2]
end PC
namespace PC
open MP ML PL
def omL (G : Nat) (l : List (List Int)) : List Int := l.map List.sum ++ List.replicate G 1
def rules0 (G : Nat) (l : List (List Int)) : List Rl := l.zipIdx.map fun p => (List.replicate l.length 0 ++ p.1, unitL (l.length + G) p.2)
theorem om_len (G : Nat) (l : List (List Int)) : (omL G l).length = l.length + G := by simp [omL]
theorem hold_sum {G : Nat} {r : List Int} (h : holdB r G = true) : 1 ≤ r.sum ∧ r.length = G ∧ ∀ z ∈ r, 0 ≤ z ∧ z ≤ 6 := by
  unfold holdB at h
  rw [Bool.and_eq_true, Bool.and_eq_true] at h
  obtain ⟨h1, h2, h3⟩ := h
  have h1 := of_decide_eq_true h1
  have h3 := of_decide_eq_true h3
  refine ⟨by omega, by omega, fun z hz => ?_⟩
  have := List.all_eq_true.mp h2 z hz
  simp at this
  exact this
theorem om_good {G : Nat} {l : List (List Int)} (hl : LotG G l) : Good (omL G l) := by
  obtain ⟨l1, l2, l3, l4, l5⟩ := hl.ok
  refine ⟨fun z hz => ?_, by rw [om_len]; omega⟩
  unfold omL at hz
  rcases List.mem_append.mp hz with h | h
  · obtain ⟨r, hr, rfl⟩ := List.mem_map.mp h
    exact (hold_sum (l5 r hr)).1
  · rw [(List.mem_replicate.mp h).2]; omega
end PC
namespace PC
open MP ML PL
def lesB (p : Rl × Nat) (a : Nat) (ld : List Int) : Bool := within p.1.1 ld && (!decide (p.1.1 = ld) || decide (p.2 < a))
def lsr (R : List Rl) (a : Nat) (ld : List Int) : List Nat := (R.zipIdx.filter fun p => lesB p a ld).map (·.2)
def kept (R : List Rl) : List Rl := (R.zipIdx.filter fun p => decide (lsr R p.2 p.1.1 = [])).map (·.1)
end PC
namespace PC
open MP ML PL
def PairOk (R : List Rl) (f s : Rl) : Prop := upper f.1 s.1 = plus f.1 s.1 ∨ ∃ z, Rd R (left_ f s) z ∧ Rd R (right_ f s) z
def Inv (R : List Rl) (P : List (Nat × Nat)) : Prop := ∀ i j : Nat, i < j → j < R.length → (i, j) ∈ P ∨ PairOk R (gt R (i : Nat)) (gt R (j : Nat))
theorem PairOk.mono {R R' : List Rl} (hs : ∀ p ∈ R, p ∈ R') {f s : Rl} (h : PairOk R f s) : PairOk R' f s := by
  rcases h with h | ⟨z, h1, h2⟩
  · exact .inl h
  · exact .inr ⟨z, h1.mono hs, h2.mono hs⟩
/-- what completed leaves -/
structure Done (om : List Int) (w : List Int) (R fin : List Rl) : Prop where
  pre : ∃ E, fin = R ++ E
  inv : Inv fin []
  rule : ∀ p ∈ fin, Rule om p
  dn : ∀ p ∈ fin, Dn w.length w p
theorem done_rs {om w : List Int} {R fin : List Rl} (hg : Good om) (h : Done om w R fin) : RS_ om w.length w fin := ⟨hg, fun p hp => (h.rule p hp).ru, fun p hp => (h.rule p hp).wt, h.dn⟩
end PC
namespace PC
open MP ML PL
def bw (G : Nat) (l : List (List Int)) (g : Nat) : List Int := l.map (fun r => gt r (g : Nat)) ++ unitL G g
def billOf (G : Nat) (l : List (List Int)) (x : List Int) : List Int := (List.range G).map fun g => dot (bw G l g) x
/-- a rule keeps the bill -/
def Kb (G : Nat) (l : List (List Int)) (p : Rl) : Prop := billOf G l p.1 = billOf G l p.2
/-- how many kinds stand in a load -/
def many (k : Nat) (x : List Int) : Nat := ((List.range k).map fun j => (gt x (j : Nat)).toNat).sum
end PC
namespace PC
open MP ML PL
structure Fin (G : Nat) (l : List (List Int)) (w : List Int) (fin : List Rl) : Prop where
  lot : LotG G l
  wl : w.length = l.length
  done : Done (omL G l) w (rules0 G l) fin
  kb : ∀ p ∈ fin, Kb G l p
theorem Fin.rs {G : Nat} {l : List (List Int)} {w : List Int} {fin : List Rl} (h : Fin G l w fin) : RS_ (omL G l) l.length w fin := by
  have := done_rs (om_good h.lot) h.done
  rwa [h.wl] at this
end PC
namespace PC
open MP ML PL
theorem Fin.rule {G : Nat} {l : List (List Int)} {w : List Int} {fin : List Rl} (h : Fin G l w fin) : ∀ p ∈ fin, Rule (omL G l) p := h.done.rule
end PC
namespace PC
open MP ML PL
def SrcB (T : Sto) (d : D) (rows : List (List Int)) : Prop := d = .lst (rows.map row) ∨ ∃ r, d = .ref r ∧ T[r]? = some ⟨true, .lst (rows.map row)⟩
theorem SrcB.ok {T T' : Sto} {d : D} {rows : List (List Int)} (h : SrcB T d rows) (k : ∀ n, n < T.length → T'[n]? = T[n]?) : watch d T T' = true := by
  rcases h with rfl | ⟨r, rfl, hr⟩
  · rfl
  · exact decide_eq_true (p := T[r]? = T'[r]?) (k r (lt_of_some hr)).symm
theorem SrcB.items {T : Sto} {d : D} {rows : List (List Int)} (h : SrcB T d rows) : itemsO d T = .ok (rows.map row) T := by
  rcases h with rfl | ⟨r, rfl, hr⟩
  · rfl
  · simp [hr]
theorem feed0 (cells : List Int) : Feed 0 0 [ML.fd cells 0 0 9132 0] := ⟨_, 0, 0, 9132, 0, rfl, by omega, by omega, by omega, by omega, by omega, by omega⟩
end PC
namespace PC
open MP ML PL
theorem cut_head {α : Type} (x : List α) (k : Nat) : cutL x none (some (k : Int)) = x.take k := by
  have : endO x.length x.length (some (k : Int)) = min k x.length := by unfold endO; simp only; rw [if_neg (by omega)]; rfl
  unfold cutL
  rw [this]
  show List.take (min k x.length - 0) (List.drop 0 x) = _
  rw [List.drop_zero, Nat.sub_zero, List.take_eq_take_iff]
  omega
theorem cut_tail {α : Type} (x : List α) (k : Nat) : cutL x (some (k : Int)) none = x.drop k := by
  have : endO x.length 0 (some (k : Int)) = min k x.length := by unfold endO; simp only; rw [if_neg (by omega)]; rfl
  unfold cutL
  rw [this]
  show List.take (x.length - min k x.length) (List.drop (min k x.length) x) = _
  rw [List.take_of_length_le (by rw [List.length_drop]; omega)]
  by_cases q : k ≤ x.length
  · rw [Nat.min_eq_left q]
  · rw [Nat.min_eq_right (by omega), List.drop_of_length_le (Nat.le_refl _), List.drop_of_length_le (by omega)]
end PC
namespace K06
open MP ML PL
def m_law_b1_t14 : MP.St := (MP.seq (MP.setS 12 (MP.biE K06.m__law_read (MP.consA (MP.vE 11) MP.nilA)))
    (MP.seq (MP.ifS (MP.notT (MP.tst (MP.biE (PL.m__law_same 8) (MP.consA (MP.lamE (MP.fnL 4 b__law_word) (MP.cakE (fun _ => K06.m_read_lot) 0 (fun a k => MP.arr [(2, 0)] a [] k) MP.nilA (MP.consA (MP.vE 11) MP.nilA))) (MP.consA (MP.vE 12) MP.nilA))))) (MP.retS (MP.cE (.bl false))) MP.nxS)
    (MP.ifS (MP.andT (MP.tb (MP.binE MP.eqO (MP.binE MP.idxO (MP.vE 12) (MP.cE (.int 1))) (MP.cE (.str [98, 97, 100, 32, 108, 111, 116])))) (MP.notT (MP.tst (MP.biE (PL.m__law_same 8) (MP.consA (MP.biE K06.m__law_kind (MP.consA (MP.vE 11) MP.nilA)) (MP.consA (MP.biE K06.m__law_flaw (MP.consA (MP.vE 11) MP.nilA)) MP.nilA)))))) (MP.retS (MP.cE (.bl false))) MP.nxS)))
def m_law_b1_t13 : MP.St := (MP.seq (MP.setS 11 (MP.binE MP.idxO (MP.vE 9) (MP.biE PL.m__law_draw (MP.consA (MP.vE 1) (MP.consA (MP.cE (.int 6)) MP.nilA)))))
    m_law_b1_t14)
def m_law_b1_t12 : MP.St := (MP.seq (MP.exprS (MP.appE (MP.vE 9) (MP.joinE (MP.cE (.str [32])) (MP.frzE (MP.revF (MP.vE 7))))))
    m_law_b1_t13)
def m_law_b1_t11 : MP.St := (MP.seq (MP.exprS (MP.appE (MP.vE 9) (MP.joinE (MP.cE (.str [32])) (MP.frzE (MP.catF (MP.newE (MP.slcF (MP.vE 7) none (some (MP.vE 8)))) (MP.newE (MP.slcF (MP.vE 7) (some (MP.binE MP.addO (MP.vE 8) (MP.cE (.int 1)))) none)))))))
    m_law_b1_t12)
def m_law_b1_t10 : MP.St := (MP.seq (MP.exprS (MP.appE (MP.vE 9) (MP.joinE (MP.cE (.str [32])) (MP.frzE (MP.catF (MP.vE 10) (MP.newE (MP.slcF (MP.vE 7) (some (MP.vE 8)) none)))))))
    m_law_b1_t11)
def m_law_b1_t9 : MP.St := (MP.seq (MP.setS 10 (MP.newE (MP.catF (MP.newE (MP.slcF (MP.vE 7) none (some (MP.vE 8)))) (MP.newE (MP.slcF (MP.vE 7) (some (MP.vE 8)) (some (MP.binE MP.addO (MP.vE 8) (MP.cE (.int 1)))))))))
    m_law_b1_t10)
def m_law_b1_t8 : MP.St := (MP.seq (MP.exprS (MP.appE (MP.vE 9) (MP.binE MP.addO (MP.binE MP.addO (MP.slcE (MP.vE 4) none (some (MP.vE 5))) (MP.vE 6)) (MP.slcE (MP.vE 4) (some (MP.binE MP.addO (MP.vE 5) (MP.cE (.int 1)))) none))))
    m_law_b1_t9)
def m_law_b1_t7 : MP.St := (MP.seq (MP.setS 9 (MP.newE (MP.lstF (MP.consA (MP.binE MP.addO (MP.binE MP.addO (MP.slcE (MP.vE 4) none (some (MP.vE 5))) (MP.vE 6)) (MP.slcE (MP.vE 4) (some (MP.vE 5)) none)) (MP.consA (MP.binE MP.addO (MP.slcE (MP.vE 4) none (some (MP.vE 5))) (MP.slcE (MP.vE 4) (some (MP.binE MP.addO (MP.vE 5) (MP.cE (.int 1)))) none)) MP.nilA)))))
    m_law_b1_t8)
def m_law_b1_t3 : MP.St := (MP.seq (MP.setS 5 (MP.biE PL.m__law_draw (MP.consA (MP.vE 1) (MP.consA (MP.binE MP.addO (MP.biE MP.lenO (MP.consA (MP.vE 4) MP.nilA)) (MP.cE (.int 1))) MP.nilA))))
    (MP.seq (MP.setS 6 (MP.biE PL.m__law_pick (MP.consA (MP.vE 1) (MP.consA (MP.frzE (MP.lstF (MP.consA (MP.cE (.str [48])) (MP.consA (MP.cE (.str [49])) (MP.consA (MP.cE (.str [45])) (MP.consA (MP.cE (.str [44])) (MP.consA (MP.cE (.str [32])) (MP.consA (MP.cE (.str [55])) (MP.consA (MP.cE (.str [97])) MP.nilA))))))))) MP.nilA))))
    (MP.seq (MP.setS 7 (MP.newE (MP.splF (MP.vE 4) (MP.cE (.str [32])))))
    (MP.seq (MP.setS 8 (MP.biE PL.m__law_draw (MP.consA (MP.vE 1) (MP.consA (MP.biE MP.lenO (MP.consA (MP.vE 7) MP.nilA)) MP.nilA))))
    m_law_b1_t7))))
theorem m_law_b1_split : m_law_b1 = (MP.seq (MP.setS 3 (MP.biE PL.m__law_any_lot (MP.consA (MP.vE 1) MP.nilA)))
    (MP.seq (MP.setS 4 (MP.biE K06.m__law_lot_text (MP.consA (MP.vE 3) MP.nilA)))
    (MP.seq (MP.ifS (MP.notT (MP.tst (MP.biE (PL.m__law_same 8) (MP.consA (MP.frzE (MP.lstF (MP.consA (MP.biE PL.m_lot_text (MP.consA (MP.vE 3) MP.nilA)) (MP.consA (MP.biE K06.m_read_lot (MP.consA (MP.vE 4) MP.nilA)) MP.nilA)))) (MP.consA (MP.frzE (MP.lstF (MP.consA (MP.vE 4) (MP.consA (MP.vE 3) MP.nilA)))) MP.nilA))))) (MP.retS (MP.cE (.bl false))) MP.nxS)
    m_law_b1_t3))) := rfl
theorem okD_rows {l : List (List Int)} (h : l.length ≤ 5) (hr : ∀ r ∈ l, r.length ≤ 3) : okD 6 (.tup (l.map row)) = true := by
  have h6 : ∀ r ∈ l, okD 5 (row r) = true := fun r hr2 => by
    have := hr r hr2
    simp [row, okD]
    omega
  rw [show okD 6 (.tup (l.map row)) = (decide ((l.map row).length < 1000000) && (l.map row).all (okD 5)) from rfl, Bool.and_eq_true, decide_eq_true_eq, List.all_eq_true]
  refine ⟨by rw [List.length_map]; omega, fun d hd => ?_⟩
  obtain ⟨r, hr2, rfl⟩ := List.mem_map.mp hd
  exact h6 r hr2
theorem t14_ok {z : Sy} {k : Nat} {S : Sto} (h : Okt z) (hf : Feed 0 k S) (v0 v1 v2 v3 v4 v5 v6 v7 v8 v9 v10 v12 : Sl) :
    ∃ w12 T, m_law_b1_t14 [v0, v1, v2, v3, v4, v5, v6, v7, v8, v9, v10, .va (.str z), v12] S = .nx [v0, v1, v2, v3, v4, v5, v6, v7, v8, v9, v10, .va (.str z), w12] T ∧ Feed 0 k T := by
  obtain ⟨U, e1⟩ := r_law_read S h
  refine ⟨.va (readD z), S ++ U, ?_, hf.app⟩
  have e := fun S => r_read_lot z S h
  unfold readD at e1 ⊢
  generalize S ++ U = T at *
  cases q : lotI z with
  | none =>
    rw [q] at e e1
    dsimp only at e e1 ⊢
    have s1 := fun S => same_ok 8 (.tup [.non, .str [98, 97, 100, 32, 116, 101, 120, 116]]) S rfl
    have q1 : ∀ S, eqO (.str [98, 97, 100, 32, 116, 101, 120, 116]) (.str [98, 97, 100, 32, 108, 111, 116]) S = .ok (.bl false) S := fun S => rfl
    simp [m_law_b1_t14, arr, e1, b__law_word, e, nthB, kb_LotError, kText, bText, s1, q1]
  | some l =>
    rw [q] at e e1
    dsimp only at e e1 ⊢
    cases f : flawL l with
    | none =>
      rw [f] at e
      rw [if_pos f] at e1
      rw [if_pos rfl]
      dsimp only at e
      obtain ⟨_, l2, _, l4, l5⟩ := flawL_none f
      have ok : okD 8 (.tup [.tup (l.map row), .str []]) = true := by
        have := okD_rows l2 fun r hr => by have := l5 r hr; unfold holdB at this; simp only [Bool.and_eq_true, decide_eq_true_eq] at this; omega
        have h7 := okD_le this (by decide : 6 ≤ 7)
        show (decide (2 < 1000000) && ([D.tup (l.map row), .str []].all (okD 7))) = true
        rw [List.all_cons, h7]
        rfl
      have s1 := fun S => same_ok 8 _ S ok
      have q1 : ∀ S, eqO (.str []) (.str [98, 97, 100, 32, 108, 111, 116]) S = .ok (.bl false) S := fun S => rfl
      generalize l.map row = Y at *
      simp [m_law_b1_t14, arr, e1, b__law_word, e, s1, q1]
    | some j =>
      have e2 := fun S => r_kind (k := j) S h q f
      have e3 := fun S => r_flaw S h q
      rw [f] at e e3
      rw [if_neg (by rw [f]; simp)] at e1
      rw [if_neg (by simp)]
      dsimp only at e
      have s1 := fun S => same_ok 8 (.tup [.non, .str [98, 97, 100, 32, 108, 111, 116]]) S rfl
      have q1 : ∀ S, eqO (.str [98, 97, 100, 32, 108, 111, 116]) (.str [98, 97, 100, 32, 108, 111, 116]) S = .ok (.bl true) S := fun S => rfl
      have s2 := fun S => same_ok 8 (.int j) S rfl
      have e3 : ∀ S, m__law_flaw [.str z] S = .ok (.int j) S := e3
      simp [m_law_b1_t14, arr, e1, b__law_word, e, nthB, kb_LotError, kLot, bLot, s1, q1, s2, e2, e3]
/-- texts of a lot's words -/
def WsOk (W : List Sy) : Prop := 1 ≤ W.length ∧ W.length ≤ 5 ∧ ∀ w ∈ W, w.length ≤ 96 ∧ w.all (· < 1114112) = true
theorem join_ok {W : List Sy} (h6 : W.length ≤ 6) (hw : ∀ w ∈ W, w.length ≤ 96 ∧ w.all (· < 1114112) = true) : Okt (TL.joinL [32] W) ∧ ∀ S, joinK [32] (W.map .str) S = .ok (.str (TL.joinL [32] W)) S := by
  have jl := joinL_len 32 96 W fun w h => (hw w h).1
  have m6 : W.length * (96 + 1) ≤ 6 * 97 := Nat.mul_le_mul_right _ h6
  refine ⟨⟨by omega, ?_⟩, fun S => ?_⟩
  · rw [List.all_eq_true]
    intro c hc
    rcases joinL_mem 32 _ c hc with rfl | ⟨w, hw2, hc⟩
    · rfl
    · exact List.all_eq_true.mp (hw w hw2).2 c hc
  · have e1 := joinK_strs [32] W S
    have k : ∀ {l : List Sy}, (∀ w ∈ l, w.length ≤ 96) → (l.map (·.length)).sum ≤ 96 * l.length := fun {l} hl => by
      induction l with
      | nil => simp
      | cons r l ih =>
        have := ih fun x hx => hl x (List.mem_cons_of_mem _ hx)
        have := hl r List.mem_cons_self
        simp only [List.map_cons, List.sum_cons, List.length_cons]
        omega
    have := k fun w h => (hw w h).1
    have hg : (W.map (·.length)).sum + W.length * [32].length ≤ 16777216 := by
      simp only [List.length_cons, List.length_nil]
      omega
    rw [grd_ok _ hg] at e1
    exact e1
/-- one of the bent texts is read -/
theorem t13_ok {k : Nat} {S : Sto} {Z : List Sy} {q : Nat} (hf : Feed 0 k S) (hk : k + 10 ≤ 1000000) (hq : S[q]? = some ⟨true, .lst (Z.map .str)⟩) (q0 : q ≠ 0) (hZ : Z.length = 6) (ok : ∀ z ∈ Z, Okt z) (v0 v2 v3 v4 v5 v6 v7 v8 v10 v11 v12 : Sl) :
    ∃ w11 w12 T, m_law_b1_t13 [v0, .va (.ref 0), v2, v3, v4, v5, v6, v7, v8, .va (.ref q), v10, v11, v12] S = .nx [v0, .va (.ref 0), v2, v3, v4, v5, v6, v7, v8, .va (.ref q), v10, w11, w12] T ∧ Feed 0 (k + 1) T := by
  obtain ⟨a, S1, e1, a0, a1, f1, g1⟩ := draw hf (many := 6)
  have hq1 : S1[q]? = some ⟨true, .lst (Z.map .str)⟩ := by rw [g1.2 q q0 (lt_of_some hq)]; exact hq
  have ha : a.toNat < Z.length := by omega
  have ea : ∀ s, atK (Z.map D.str) a s = .ok (.str Z[a.toNat]) s := fun s => by
    rw [at_map _ _ _ a0]
    have := gt_eq (l := Z) ha
    rw [show ((a.toNat : Nat) : Int) = a by omega] at this
    rw [this]
    exact grd_eq (by omega) rfl
  obtain ⟨w12, T, e2, f2⟩ := t14_ok (ok _ (List.getElem_mem ha)) f1 v0 (.va (.ref 0)) v2 v3 v4 v5 v6 v7 v8 (.va (.ref q)) v10 v12
  refine ⟨.va (.str Z[a.toNat]), w12, T, ?_, f2⟩
  generalize Z[a.toNat] = z at *
  generalize hC : m_law_b1_t14 = C at *
  generalize Z.map D.str = Zd at *
  simp [m_law_b1_t13, hC, e1, hq1, ea]
  exact e2
theorem rev_step {S : Sto} {Z W : List Sy} {p q : Nat} (hp : S[p]? = some ⟨true, .lst (W.map .str)⟩) (hq : S[q]? = some ⟨true, .lst (Z.map .str)⟩) (hW : WsOk W) (hZ : Z.length ≤ 10) (v0 v1 v2 v3 v4 v5 v6 v8 v10 v11 v12 : Sl) :
    ∃ z, Okt z ∧ m_law_b1_t12 [v0, v1, v2, v3, v4, v5, v6, .va (.ref p), v8, .va (.ref q), v10, v11, v12] S = m_law_b1_t13 [v0, v1, v2, v3, v4, v5, v6, .va (.ref p), v8, .va (.ref q), v10, v11, v12] (S.set q ⟨true, .lst ((Z ++ [z]).map .str)⟩) := by
  obtain ⟨j1, j2⟩ := join_ok (W := W.reverse) (by simp; have := hW.2.1; omega) fun w hw => hW.2.2 w (by simpa using hw)
  refine ⟨_, j1, ?_⟩
  rw [List.map_append]
  have hl : (Z.map D.str).length ≤ 10 := by simpa using hZ
  have w6 := hW.2.1
  rw [List.map_reverse] at j2
  have hl2 : (W.map D.str).length ≤ 6 := by simp; omega
  generalize TL.joinL [32] W.reverse = t at *
  generalize Z.map D.str = Zd at *
  generalize W.map D.str = Wd at *
  generalize hC : m_law_b1_t13 = C at *
  simp [m_law_b1_t12, hC, hp, hq, j2]
  exact grS_ok _ (by omega)
theorem sl_ref {S : Sto} {W : List D} {p : Nat} {w : Bool} (hp : S[p]? = some ⟨w, .lst W⟩) (l h : Option Int) (U : Sto) : slK l h (.ref p) (S ++ U) = .ok (cutL W l h) (S ++ U) := by
  have : (S ++ U)[p]? = some ⟨w, .lst W⟩ := by rw [List.getElem?_append_left (lt_of_some hp)]; exact hp
  simp only [slK, this]
theorem cut_words (W : List Sy) (l h : Option Int) : cutL (W.map D.str) l h = (cutL W l h).map D.str := by simp [cutL, List.map_take, List.map_drop]
/-- all but one of the words -/
theorem less_step {S : Sto} {Z W : List Sy} {p q : Nat} {b : Int} (hp : S[p]? = some ⟨true, .lst (W.map .str)⟩) (hq : S[q]? = some ⟨true, .lst (Z.map .str)⟩) (hW : WsOk W) (hZ : Z.length ≤ 10) (b0 : 0 ≤ b) (b1 : b < W.length) (v0 v1 v2 v3 v4 v5 v6 v10 v11 v12 : Sl) :
    ∃ z V, Okt z ∧ m_law_b1_t11 [v0, v1, v2, v3, v4, v5, v6, .va (.ref p), .va (.int b), .va (.ref q), v10, v11, v12] S = m_law_b1_t12 [v0, v1, v2, v3, v4, v5, v6, .va (.ref p), .va (.int b), .va (.ref q), v10, v11, v12] ((S ++ V).set q ⟨true, .lst ((Z ++ [z]).map .str)⟩) := by
  have w6 := hW.2.1
  have cb : (cutL W none (some b) ++ cutL W (some (b + 1)) none).length ≤ 6 := by
    have e1 : cutL W none (some b) = W.take b.toNat := by
      have := PC.cut_head W b.toNat
      rwa [show ((b.toNat : Nat) : Int) = b by omega] at this
    have e2 : cutL W (some (b + 1)) none = W.drop (b.toNat + 1) := by
      have := PC.cut_tail W (b.toNat + 1)
      rwa [show ((b.toNat + 1 : Nat) : Int) = b + 1 by omega] at this
    rw [e1, e2]
    simp
    omega
  obtain ⟨j1, j2⟩ := join_ok cb fun w hw => by
    rcases List.mem_append.mp hw with h | h
    · exact hW.2.2 w (mem_cutL h)
    · exact hW.2.2 w (mem_cutL h)
  have s1 := sl_ref hp none (some b) []
  have s2 := fun U => sl_ref hp (some (b + 1)) none U
  rw [List.append_nil] at s1
  simp only [cut_words] at s1 s2
  rw [List.map_append] at j2
  generalize hA : (⟨true, .lst ((cutL W none (some b)).map .str)⟩ : Ob) = A at *
  generalize hB : (⟨true, .lst ((cutL W (some (b + 1)) none).map .str)⟩ : Ob) = B at *
  refine ⟨_, [A, B], j1, ?_⟩
  have hA2 : (S ++ [A, B])[S.length]? = some A := by simp
  have hB2 : (S ++ [A, B])[S.length + 1]? = some B := by simp
  have hq2 : (S ++ [A, B])[q]? = some ⟨true, .lst (Z.map .str)⟩ := by rw [List.getElem?_append_left (lt_of_some hq)]; exact hq
  have la : ((cutL W none (some b)).map D.str).length + ((cutL W (some (b + 1)) none).map D.str).length ≤ 6 := by
    rw [List.length_append] at cb
    simpa using cb
  rw [List.map_append]
  have hl : (Z.map D.str).length ≤ 10 := by simpa using hZ
  generalize TL.joinL [32] (cutL W none (some b) ++ cutL W (some (b + 1)) none) = t at *
  generalize (cutL W none (some b)).map D.str = LA at *
  generalize (cutL W (some (b + 1)) none).map D.str = LB at *
  generalize Z.map D.str = Zd at *
  generalize hC : m_law_b1_t12 = C at *
  have s2 := s2 [A]
  have lA : ∀ s, lqK (some A) s = .ok LA s := fun s => by rw [← hA]; rfl
  have lB : lstQ (.ref (S.length + 1)) (S ++ [A, B]) = .ok LB (S ++ [A, B]) := by
    rw [o_lstQ, hB2, ← hB]
    rfl
  simp [m_law_b1_t11, hC, hp, hq, s1, hA, s2, hB, lA, lB, j2, hq2]
  exact grS_ok _ (by omega)
/-- a word twice -/
theorem more_step {S : Sto} {Z W : List Sy} {p q : Nat} {b : Int} (hp : S[p]? = some ⟨true, .lst (W.map .str)⟩) (hq : S[q]? = some ⟨true, .lst (Z.map .str)⟩) (hW : WsOk W) (hZ : Z.length ≤ 10) (b0 : 0 ≤ b) (b1 : b < W.length) (v0 v1 v2 v3 v4 v5 v6 v10 v11 v12 : Sl) :
    ∃ z V w10, Okt z ∧ m_law_b1_t9 [v0, v1, v2, v3, v4, v5, v6, .va (.ref p), .va (.int b), .va (.ref q), v10, v11, v12] S = m_law_b1_t11 [v0, v1, v2, v3, v4, v5, v6, .va (.ref p), .va (.int b), .va (.ref q), w10, v11, v12] ((S ++ V).set q ⟨true, .lst ((Z ++ [z]).map .str)⟩) := by
  have w6 := hW.2.1
  have cb : ((cutL W none (some b) ++ cutL W (some b) (some (b + 1))) ++ cutL W (some b) none).length ≤ 6 := by
    have e1 : cutL W none (some b) = W.take b.toNat := by
      have := PC.cut_head W b.toNat
      rwa [show ((b.toNat : Nat) : Int) = b by omega] at this
    have e2 : cutL W (some b) none = W.drop b.toNat := by
      have := PC.cut_tail W b.toNat
      rwa [show ((b.toNat : Nat) : Int) = b by omega] at this
    have e3 : (cutL W (some b) (some (b + 1))).length ≤ 1 := by
      simp [cutL, endO]
      split <;> split <;> omega
    rw [e1, e2, List.length_append, List.length_append]
    simp
    omega
  obtain ⟨j1, j2⟩ := join_ok cb fun w hw => by
    rcases List.mem_append.mp hw with h | h
    · rcases List.mem_append.mp h with h | h
      · exact hW.2.2 w (mem_cutL h)
      · exact hW.2.2 w (mem_cutL h)
    · exact hW.2.2 w (mem_cutL h)
  have s1 := sl_ref hp none (some b) []
  have s2 := fun U => sl_ref hp (some b) (some (b + 1)) U
  have s3 := fun U => sl_ref hp (some b) none U
  rw [List.append_nil] at s1
  simp only [cut_words] at s1 s2 s3
  rw [List.map_append, List.map_append, List.append_assoc] at j2
  generalize hA : (⟨true, .lst ((cutL W none (some b)).map .str)⟩ : Ob) = A at *
  generalize hB : (⟨true, .lst ((cutL W (some b) (some (b + 1))).map .str)⟩ : Ob) = B at *
  generalize hD : (⟨true, .lst ((cutL W (some b) none).map .str)⟩ : Ob) = Dd at *
  generalize hE : (⟨true, .lst ((cutL W none (some b)).map .str ++ (cutL W (some b) (some (b + 1))).map .str)⟩ : Ob) = E at *
  refine ⟨_, [A, B, E, Dd], .va (.ref (S.length + 2)), j1, ?_⟩
  have hB2 : (S ++ [A, B])[S.length + 1]? = some B := by simp
  have hE2 : (S ++ [A, B, E])[S.length + 2]? = some E := by simp
  have hE3 : (S ++ [A, B, E, Dd])[S.length + 2]? = some E := by simp
  have hD2 : (S ++ [A, B, E, Dd])[S.length + 3]? = some Dd := by simp
  have hq2 : (S ++ [A, B, E, Dd])[q]? = some ⟨true, .lst (Z.map .str)⟩ := by rw [List.getElem?_append_left (lt_of_some hq)]; exact hq
  have hq3 : (S ++ [A, B, E])[q]? = some ⟨true, .lst (Z.map .str)⟩ := by rw [List.getElem?_append_left (lt_of_some hq)]; exact hq
  have la : ((cutL W none (some b)).map D.str).length + ((cutL W (some b) (some (b + 1))).map D.str).length + ((cutL W (some b) none).map D.str).length ≤ 6 := by
    rw [List.length_append, List.length_append] at cb
    simpa using cb
  rw [List.map_append]
  have hl : (Z.map D.str).length ≤ 10 := by simpa using hZ
  generalize TL.joinL [32] ((cutL W none (some b) ++ cutL W (some b) (some (b + 1))) ++ cutL W (some b) none) = t at *
  generalize (cutL W none (some b)).map D.str = LA at *
  generalize (cutL W (some b) (some (b + 1))).map D.str = LB at *
  generalize (cutL W (some b) none).map D.str = LD at *
  generalize Z.map D.str = Zd at *
  generalize hC : m_law_b1_t11 = C at *
  have s2 := s2 [A]
  have s3 := s3 [A, B, E]
  have lA : ∀ s, lqK (some A) s = .ok LA s := fun s => by rw [← hA]; rfl
  have lE : ∀ s, lqK (some E) s = .ok (LA ++ LB) s := fun s => by rw [← hE]; rfl
  have lB : lstQ (.ref (S.length + 1)) (S ++ [A, B]) = .ok LB (S ++ [A, B]) := by
    rw [o_lstQ, hB2, ← hB]
    rfl
  have lD : lstQ (.ref (S.length + 3)) (S ++ [A, B, E, Dd]) = .ok LD (S ++ [A, B, E, Dd]) := by
    rw [o_lstQ, hD2, ← hD]
    rfl
  simp [m_law_b1_t9, m_law_b1_t10, hC, hp, hq, s1, hA, s2, hB, lA, lB, hE, hq3, hE2, hE3, lE, s3, hD, lD, j2, hq2]
  exact grS_ok _ (by omega)
theorem okt_app {a b : Sy} (ha : a.all (· < 1114112) = true) (hb : b.all (· < 1114112) = true) : (a ++ b).all (· < 1114112) = true := by
  rw [List.all_append, ha, hb]; rfl
theorem okt_cut {a : Sy} (ha : a.all (· < 1114112) = true) (l h : Option Int) : (cutL a l h).all (· < 1114112) = true := by
  simp only [List.all_eq_true] at ha ⊢
  exact fun c hc => ha c (mem_cutL hc)
/-- a sign put in, taken out, put in its stead -/
theorem sign_step {S : Sto} {z : Sy} {g : Nat} {a : Int} (h : Okt z) (hl : z.length ≤ 500) (hg : g < 1114112) (v0 v1 v2 v3 v7 v8 v9 v10 v11 v12 : Sl) :
    ∃ Z : List Sy, Z.length = 3 ∧ (∀ x ∈ Z, Okt x) ∧ m_law_b1_t7 [v0, v1, v2, v3, .va (.str z), .va (.int a), .va (.str [g]), v7, v8, v9, v10, v11, v12] S = m_law_b1_t9 [v0, v1, v2, v3, .va (.str z), .va (.int a), .va (.str [g]), v7, v8, .va (.ref S.length), v10, v11, v12] (S ++ [⟨true, .lst (Z.map .str)⟩]) := by
  have h2 := h.2
  have hgs : ([g] : Sy).all (· < 1114112) = true := by simp [hg]
  have c1 := cutL_le z none (some a)
  have c2 := cutL_le z (some a) none
  have c3 := cutL_le z (some (a + 1)) none
  refine ⟨[cutL z none (some a) ++ [g] ++ cutL z (some a) none, cutL z none (some a) ++ cutL z (some (a + 1)) none, cutL z none (some a) ++ [g] ++ cutL z (some (a + 1)) none], rfl, fun x hx => ?_, ?_⟩
  · simp only [List.mem_cons, List.not_mem_nil, or_false] at hx
    rcases hx with rfl | rfl | rfl
    · exact ⟨by simp; omega, okt_app (okt_app (okt_cut h2 _ _) hgs) (okt_cut h2 _ _)⟩
    · exact ⟨by simp; omega, okt_app (okt_cut h2 _ _) (okt_cut h2 _ _)⟩
    · exact ⟨by simp; omega, okt_app (okt_app (okt_cut h2 _ _) hgs) (okt_cut h2 _ _)⟩
  · generalize hC : m_law_b1_t9 = C at *
    simp [m_law_b1_t7, m_law_b1_t8, hC]
    exact grS_ok _ (by omega)
theorem words_lot {l : List (List Int)} (h : LotS l) : words 32 (lotT l) = l.map rowT := by
  unfold words lotT
  exact TL.spl_join (by simp; intro e; rw [e] at h; exact absurd h.1 (by decide)) fun p hp => by
    obtain ⟨r, hr, rfl⟩ := List.mem_map.mp hp
    exact rowT_free
theorem ws_ok {l : List (List Int)} (h : LotS l) : WsOk (l.map rowT) := by
  refine ⟨by simpa using h.1, by simpa using h.2.1, fun w hw => ?_⟩
  obtain ⟨r, hr, rfl⟩ := List.mem_map.mp hw
  exact ⟨rowT_len (h.2.2 r hr).2.2 (h.2.2 r hr).2.1, (rowT_ok (h.2.2 r hr).2.2).2⟩
theorem bent_ok {k : Nat} {S : Sto} {l : List (List Int)} (hf : Feed 0 k S) (hk : k + 20 ≤ 1000000) (h : LotS l) (v0 v2 v3 v5 v6 v7 v8 v9 v10 v11 v12 : Sl) :
    ∃ w5 w6 w7 w8 w9 w10 w11 w12 T, m_law_b1_t3 [v0, .va (.ref 0), v2, v3, .va (.str (lotT l)), v5, v6, v7, v8, v9, v10, v11, v12] S = .nx [v0, .va (.ref 0), v2, v3, .va (.str (lotT l)), w5, w6, w7, w8, w9, w10, w11, w12] T ∧ Feed 0 (k + 4) T := by
  have hT := lotT_ok h
  have tl := lotT_len h
  obtain ⟨a, S1, e1, a1, a2, f1, _⟩ := draw hf (many := ((lotT l).length : Int) + 1)
  obtain ⟨x, S2, hx, e2, f2, _⟩ := pick (xs := [.str [48], .str [49], .str [45], .str [44], .str [32], .str [55], .str [97]]) f1
  obtain ⟨g, rfl, hg⟩ : ∃ g : Nat, x = .str [g] ∧ g < 1114112 := by
    simp at hx
    rcases hx with rfl | rfl | rfl | rfl | rfl | rfl | rfl <;> exact ⟨_, rfl, by decide⟩
  have hW := ws_ok h
  have ew : TL.spl [32] 0 [] (lotT l) = l.map rowT := words_lot h
  have f3 : Feed 0 (k + 2) (S2 ++ [⟨true, .lst ((l.map rowT).map .str)⟩]) := f2.app
  have hp : (S2 ++ [⟨true, .lst ((l.map rowT).map .str)⟩])[S2.length]? = some ⟨true, .lst ((l.map rowT).map .str)⟩ := by simp
  have p0 : S2.length ≠ 0 := by have := f2.lt; omega
  generalize hS3 : S2 ++ [⟨true, .lst ((l.map rowT).map .str)⟩] = S3 at *
  generalize l.map rowT = W at *
  have w1 := hW.1
  have w2 := hW.2.1
  obtain ⟨b, S4, e4, b0, b1, f4, g4⟩ := draw f3 (many := (W.length : Int))
  have hp4 : S4[S2.length]? = some ⟨true, .lst (W.map .str)⟩ := by rw [g4.2 _ p0 (lt_of_some hp)]; exact hp
  obtain ⟨Z, z3, zo, e5⟩ := sign_step (S := S4) (a := a) hT tl hg v0 (.va (.ref 0)) v2 v3 (.va (.ref S2.length)) (.va (.int b)) v9 v10 v11 v12
  have f5 : Feed 0 (k + 3) (S4 ++ [⟨true, .lst (Z.map .str)⟩]) := f4.app
  have hp5 : (S4 ++ [⟨true, .lst (Z.map .str)⟩])[S2.length]? = some ⟨true, .lst (W.map .str)⟩ := by rw [List.getElem?_append_left (lt_of_some hp4)]; exact hp4
  have hq5 : (S4 ++ [⟨true, .lst (Z.map .str)⟩])[S4.length]? = some ⟨true, .lst (Z.map .str)⟩ := by simp
  have q0 : S4.length ≠ 0 := by have := f4.lt; omega
  have pq : S2.length ≠ S4.length := by have := lt_of_some hp4; omega
  generalize S4 ++ [⟨true, .lst (Z.map .str)⟩] = S5 at *
  generalize S4.length = q at *
  generalize hpl : S2.length = p at *
  have keep : ∀ {T : Sto} {Y Y' : List Sy} {V : Sto}, T[p]? = some ⟨true, .lst (W.map .str)⟩ → T[q]? = some ⟨true, .lst (Y.map .str)⟩ → Feed 0 (k + 3) T → ((T ++ V).set q ⟨true, .lst (Y'.map .str)⟩)[p]? = some ⟨true, .lst (W.map .str)⟩ ∧ ((T ++ V).set q ⟨true, .lst (Y'.map .str)⟩)[q]? = some ⟨true, .lst (Y'.map .str)⟩ ∧ Feed 0 (k + 3) ((T ++ V).set q ⟨true, .lst (Y'.map .str)⟩) := fun {T Y Y' V} h1 h2 h3 => by
    refine ⟨?_, ?_, ?_⟩
    · rw [List.getElem?_set_ne (by omega), List.getElem?_append_left (lt_of_some h1)]
      exact h1
    · exact List.getElem?_set_self (by rw [List.length_append]; have := lt_of_some h2; omega)
    · exact (h3.app (T := V)).same (List.getElem?_set_ne q0)
  obtain ⟨z4, V1, w10, o4, e6⟩ := more_step hp5 hq5 hW (by omega) b0 b1 v0 (.va (.ref 0)) v2 v3 (.va (.str (lotT l))) (.va (.int a)) (.va (.str [g])) v10 v11 v12
  obtain ⟨hp6, hq6, f6⟩ := keep (Y' := Z ++ [z4]) (V := V1) hp5 hq5 f5
  obtain ⟨z5, V2, o5, e7⟩ := less_step hp6 hq6 hW (by simp; omega) b0 b1 v0 (.va (.ref 0)) v2 v3 (.va (.str (lotT l))) (.va (.int a)) (.va (.str [g])) w10 v11 v12
  obtain ⟨hp7, hq7, f7⟩ := keep (Y' := (Z ++ [z4]) ++ [z5]) (V := V2) hp6 hq6 f6
  obtain ⟨z6, o6, e8⟩ := rev_step hp7 hq7 hW (by simp; omega) v0 (.va (.ref 0)) v2 v3 (.va (.str (lotT l))) (.va (.int a)) (.va (.str [g])) (.va (.int b)) w10 v11 v12
  obtain ⟨hp8, hq8, f8⟩ := keep (Y' := (Z ++ [z4]) ++ [z5] ++ [z6]) (V := []) hp7 hq7 f7
  rw [List.append_nil] at hp8 hq8 f8
  obtain ⟨w11, w12, T, e9, f9⟩ := t13_ok f8 (by omega) hq8 q0 (by simp; omega) (fun z hz => by
    rcases List.mem_append.mp hz with hz | hz
    · rcases List.mem_append.mp hz with hz | hz
      · rcases List.mem_append.mp hz with hz | hz
        · exact zo z hz
        · rw [List.mem_singleton.mp hz]; exact o4
      · rw [List.mem_singleton.mp hz]; exact o5
    · rw [List.mem_singleton.mp hz]; exact o6) v0 v2 v3 (.va (.str (lotT l))) (.va (.int a)) (.va (.str [g])) (.va (.ref p)) (.va (.int b)) w10 v11 v12
  refine ⟨.va (.int a), .va (.str [g]), .va (.ref p), .va (.int b), .va (.ref q), w10, w11, w12, T, ?_, f9⟩
  have all := e5.trans (e6.trans (e7.trans (e8.trans e9)))
  have l3 := hT.1
  have lW : (W.map D.str).length = W.length := by simp
  have e2 := e2
  generalize hC : m_law_b1_t7 = C at *
  generalize hWd : W.map D.str = Wd at *
  simp [m_law_b1_t3, hC, e1, e2, ew, hWd, hS3, hpl, hp, lW, e4]
  rw [grS_ok _ (by omega)]
  exact all
theorem turn_ok {k : Nat} {S : Sto} (hf : Feed 0 k S) (hk : k + 100 ≤ 1000000) (v0 v2 v3 v4 v5 v6 v7 v8 v9 v10 v11 v12 : Sl) :
    ∃ w3 w4 w5 w6 w7 w8 w9 w10 w11 w12 T, m_law_b1 [v0, .va (.ref 0), v2, v3, v4, v5, v6, v7, v8, v9, v10, v11, v12] S = .nx [v0, .va (.ref 0), v2, w3, w4, w5, w6, w7, w8, w9, w10, w11, w12] T ∧ Feed 0 (k + 60) T := by
  obtain ⟨g, m, l, S1, e1, g1, g2, m1, m2, l1, l2, hr, f1, _⟩ := ML.anyLot_feed hf (by omega)
  have hl : LotS l := ⟨by omega, l2, fun r hx => by
    obtain ⟨q1, q2, q3⟩ := hr r hx
    refine ⟨fun z => by rw [z] at q1; simp at q1; omega, by omega, by omega, fun z hz => ?_⟩
    have := q2 z hz
    have : z.natAbs ≤ 6 := by omega
    exact Nat.lt_of_le_of_lt this (by decide)⟩
  have fl : flawL l = none := (lot_ok l1 (by omega) hr m2 g1 g2).1
  have e1 : m__law_any_lot [.ref 0] S = .ok (.tup (l.map row)) S1 := e1
  have e2 := r_law_lot_text S1 hl
  have e3 := r_lot_text S1 hl fl
  have e4 : m_read_lot [.str (lotT l)] S1 = .ok (.tup (l.map row)) S1 := by
    have := r_read_lot (lotT l) S1 (lotT_ok hl)
    rw [lotI_lotT hl] at this
    dsimp only at this
    rw [fl] at this
    exact this
  have ok : okD 8 (.lst [.str (lotT l), .tup (l.map row)]) = true := by
    have h7 := okD_le (okD_rows l2 fun r hx => (hl.2.2 r hx).2.1) (by decide : 6 ≤ 7)
    show (decide (2 < 1000000) && ([D.str (lotT l), .tup (l.map row)].all (okD 7))) = true
    have h8 : okD 7 (.str (lotT l)) = true := (lotT_ok hl).2
    rw [List.all_cons, List.all_cons, h7, h8]
    rfl
  have s1 := fun S => same_ok 8 _ S ok
  obtain ⟨w5, w6, w7, w8, w9, w10, w11, w12, T, e5, f5⟩ := bent_ok f1 (by omega) hl v0 v2 (.va (.tup (l.map row))) v5 v6 v7 v8 v9 v10 v11 v12
  refine ⟨.va (.tup (l.map row)), .va (.str (lotT l)), w5, w6, w7, w8, w9, w10, w11, w12, T, ?_, f5.mono (by omega)⟩
  rw [m_law_b1_split]
  generalize l.map row = Y at *
  generalize lotT l = z at *
  generalize m_law_b1_t3 = C at *
  simp [e1, e2, e3, e4, s1, e5]
theorem law_true (ns : List Int) (h : ns.length ≤ 63) : ∃ S', m_law [.lst (ns.map .int)] [] = .ok (.bl true) S' := by
  obtain ⟨e', s', p1, w2, w3, w4, w5, w6, w7, w8, w9, w10, w11, w12, rfl, f⟩ := loop_inv (enc := fun i : Nat => D.int (i : Nat)) (tg := .nm 2) (b := m_law_b1) (ok := fun _ => true) (fun i e s => ∃ w2 w3 w4 w5 w6 w7 w8 w9 w10 w11 w12, e = [.va (.lst (ns.map .int)), .va (.ref 0), w2, w3, w4, w5, w6, w7, w8, w9, w10, w11, w12] ∧ Feed 0 (100 * i) s)
    (List.range 5) 0 [.va (.lst (ns.map .int)), .va (.ref 0), .un, .un, .un, .un, .un, .un, .un, .un, .un, .un, .un] [ML.fd (cutL ns none (some 63)) 0 0 9132 0] ⟨_, _, _, _, _, _, _, _, _, _, _, rfl, PC.feed0 _⟩ (fun _ _ _ _ => rfl) fun i x e s hi hI => by
      have i3 : i < 5 := by have := (List.getElem?_eq_some_iff.mp hi).1; rwa [List.length_range] at this
      obtain ⟨w2, w3, w4, w5, w6, w7, w8, w9, w10, w11, w12, rfl, f⟩ := hI
      obtain ⟨x3, x4, x5, x6, x7, x8, x9, x10, x11, x12, T, q, f2⟩ := turn_ok f (by omega) (.va (.lst (ns.map .int))) (.va (.int (x : Nat))) w3 w4 w5 w6 w7 w8 w9 w10 w11 w12
      refine ⟨_, _, _, rfl, q, _, _, _, _, _, _, _, _, _, _, _, rfl, f2.mono (by omega)⟩
  have r1 : ∀ S, m_read_lot [.str [49, 32, 49, 32, 49, 32, 49, 32, 49, 32, 49, 32, 120]] S = .exc 6 kText bText S := fun S => r_read_lot _ S ⟨by decide, by decide⟩
  have r2 : ∀ S, m_read_lot [.str [55, 32, 48, 44]] S = .exc 6 kText bText S := fun S => r_read_lot _ S ⟨by decide, by decide⟩
  have r3 : ∀ S, m_read_lot [.str [48, 32, 45, 48]] S = .exc 6 kText bText S := fun S => r_read_lot _ S ⟨by decide, by decide⟩
  have r4 : ∀ S, m_lot_text [.tup [.tup [.int 0]]] S = .exc 0 kLot (bLot 0) S := fun S => by
    have : ∀ S, m_look_lot [.tup [.tup [.int 0]]] S = .exc 0 kLot (bLot 0) S := fun S => r_look_lot [[0]] S (by simp)
    simp [m_lot_text, this]
  have q0 : s'.length ≠ 0 := by have := f.lt; omega
  refine ⟨s' ++ [⟨true, .lst [.tup [.non, .str [98, 97, 100, 32, 116, 101, 120, 116]], .tup [.non, .str [98, 97, 100, 32, 116, 101, 120, 116]], .tup [.non, .str [98, 97, 100, 32, 116, 101, 120, 116]]]⟩, ⟨true, .lst [.tup [.non, .str [98, 97, 100, 32, 116, 101, 120, 116]]]⟩], ?_⟩
  generalize hB : m_law_b1 = B at *
  have q1 : ∀ S, eqO (.lst [.tup [.non, .str [98, 97, 100, 32, 116, 101, 120, 116]], .tup [.non, .str [98, 97, 100, 32, 116, 101, 120, 116]], .tup [.non, .str [98, 97, 100, 32, 116, 101, 120, 116]]]) (.lst [.tup [.non, .str [98, 97, 100, 32, 116, 101, 120, 116]], .tup [.non, .str [98, 97, 100, 32, 116, 101, 120, 116]], .tup [.non, .str [98, 97, 100, 32, 116, 101, 120, 116]]]) S = .ok (.bl true) S := fun S => eq_same (n := 5) rfl
  have q2 : ∀ S, eqO (.tup [.non, .str [98, 97, 100, 32, 108, 111, 116]]) (.tup [.non, .str [98, 97, 100, 32, 108, 111, 116]]) S = .ok (.bl true) S := fun S => eq_same (n := 5) rfl
  simp [m_law, hB, feed_ok, p1, r1, r2, r3, r4, b__law_word, nthB, kb_LotError, kText, bText, kLot, bLot, q1, q2]
end K06
namespace K06
open PySem PySem.Spec PyProof.Rows L2 MS
theorem facts {w : World} {K : PySem.W.Frag} {h : Heap} {mg : Str → Option Value} {f : Addr} (X : K.In h) (G : h.Ns mainGlobals mg) (hfa : mg ("law" : Str) = some (.ref f)) (c : He.SaysX fa fn [] tf ex w h K) : LamX.LawAtS PySem.Challenge.rw_hamperlot_k06_lots_written_and_read w K (L2.CX PySem.Challenge.rw_hamperlot_k06_lots_written_and_read.prog w) 10 63 "_law_script" mg f h := by
  have T : Tx K mg := ⟨c.t.d, c.more, h, X, G⟩
  have e := hfa.symm.trans (T.glo 46)
  cases e
  obtain ⟨fd, F⟩ := F_law T
  refine ⟨fd, cs K, spI (ct K) m_law, fun p hp => ?_, fun p hp => ?_, fun p hp => ?_, fun s u => F.bindsA (ps := ["_law_script"]) (fun _ _ _ _ _ _ us hl => match us, hl with | [_], _ => rfl) s [u] rfl, fun H a ns hl _ hT hS => ?_, fun base hK hN TB => ?_⟩
  · obtain ⟨t, ht, e⟩ := List.mem_map.mp (show p ∈ tf.map (He.cT K) from hp)
    rw [← e]; exact c.empty t ht
  · obtain ⟨t, ht, e⟩ := List.mem_map.mp (show p ∈ tf.map (He.cT K) from hp)
    rw [← e]; exact c.out t ht
  · obtain ⟨t, ht, e⟩ := List.mem_map.mp (show p ∈ tf.map (He.cT K) from hp)
    rw [← e]; exact PySem.W.codeHd_of_K X (c.hd t ht)
  · refine law_start (c := ct K) (fun p hp => ?_) hS (law_true ns hl)
    obtain ⟨t, ht, e⟩ := List.mem_map.mp (show p ∈ tf.map (fun t => ((He.cT K t).2, (t.1 ++ ".<locals>.") ++ "<lambda>")) from hp)
    rw [← e]
    exact hT (He.cT K t) (List.mem_map.mpr ⟨t, ht, rfl⟩)
  · exact fn_okd (G_law T TB) F
end K06
open PySem PySem.W PySem.Calls PyProof.Rows
theorem PySem.Challenge.cw_hamperlot_k06_lots_written_and_read_holds : PySem.Challenge.rw_hamperlot_k06_lots_written_and_read.Holds := by
  w_on; o_law
  refine HandSHeadRun.head_any (r := OpenLaw.row PySem.Challenge.rw_hamperlot_k06_lots_written_and_read) (q := view (OpenLaw.row PySem.Challenge.rw_hamperlot_k06_lots_written_and_read).prog [37]) (H := K06.hook) (ob := K06.obR_) (M := 12000) (loose := K06.loose) (d := HandSHeadRun.topDef (OpenLaw.row PySem.Challenge.rw_hamperlot_k06_lots_written_and_read).prog 37) (kwd := []) K06.ob_eq
    (by kernel_rfl) (fun s => by kernel_rfl) K06.run (by kernel_rfl) (by kernel_rfl) (by kernel_rfl) (by rfl) (by first | assumption | decide +kernel) (by decide +kernel) ⟨rfl, rfl, rfl, rfl, rfl, by decide +kernel⟩ ?hw ?hc
  case hw => w_witness2
  case hc =>
    refine LamX.walk_ofTsE (l := PySem.Challenge.rw_hamperlot_k06_lots_written_and_read) (n := 63) (k := 10) (x := "_law_script") (CX := fun w => L2.CX PySem.Challenge.rw_hamperlot_k06_lots_written_and_read.prog w) rfl (by decide) (by kernel_rfl) ⟨rfl, by decide, by decide⟩ ?F (fun _ _ _ _ _ z => MS.cx_no z)
    intro w mg fa h Y G hmg0
    obtain ⟨K, KX, c⟩ := Y
    have hmg : mg ("law" : PySem.Str) = some (.ref fa) := by
      have e : (HandSHeadRun.topDef (OpenLaw.row PySem.Challenge.rw_hamperlot_k06_lots_written_and_read).prog 37).name = ("law" : PySem.Str) := by kernel_rfl
      rw [← e]
      exact hmg0
    exact ⟨K, KX, K06.facts KX G hmg c⟩
